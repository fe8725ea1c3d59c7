import PyProof.Rows.All
import Wide.All
import OpenK.AllK
import Wide.FinOn
import HandS.Dict
import KE.KeyNested
import HandS.ForMost
import HandS.ForExc
import HandS.CallSlots
import HandS.Defaults
import HandS.HeadHook2
import HandS.ExcCtx
import HandS.IsInst
import HandS.SortInts
import HandS.Wide
import HandS.WideBits
import HandS.More
import HandS.TupAny
import HandS.Deep
import HandS.Zip
import HandS.Iter
import HandS.Lambda
import KE.GoesEnum
import HandS.SetFor
import HandS.Strs
import HandS.Comp
import HandS.HotCalls
import HandS.Set
import HandS.Style
import HandS.Text
import HandS.TupSets
import HandS.Conv
import HandS.Zip0
import HandS.TupLe
import HandS.ExcInit
import HandS.ExcOwn
import HandS.ExcValue
import HandS.ExcField
import KE.KExcIs
import KE.KIsAll
import KE.SortData
import KE.KDictSum
import HandS.TupMul
import KE.DataCmp
import KE.DataMinMax
import KE.KDictDisplayH
import KE.KDictCopyH
import HandS.Rev
import HandS.SortKw
import KE.SortKeyHeap
import KE.KDictWalk
import HandS.Codes
import KE.KMinKey
import KE.DataMinKey
import HandS.HeadHook3
import HandS.JoinGen
import PyProof.StrOps2
import KE.OsArith
import HandS.Base
import HandS.Call
import HandS.Ends
import HandS.Words
import HandS.WordsExc
import HandS.Head0
import HandS.Head1
import HandS.Head2
import HandS.HeadEnd
import HandS.HeadHook1
import KE.KStateDown
import Lean
import PySem.Challenge.RW_badbegins_k15_no_truth
set_option Elab.async false
set_option linter.all false
set_option maxRecDepth 100000
set_option maxHeartbeats 4000000
set_option autoImplicit false
set_option Elab.async false
set_option linter.all false
set_option maxRecDepth 100000
set_option maxHeartbeats 0
section
namespace PD
open PySem L2
mutual
def eqK : PyData → PyData → Bool
  | .int i, .int j => decide (i = j)
  | .str x, .str y => decide (x = y)
  | .tuple xs, .tuple ys => eqKs xs ys
  | _, _ => false
def eqKs : List PyData → List PyData → Bool
  | [], [] => true
  | x :: xs, y :: ys => eqK x y && eqKs xs ys
  | _, _ => false
end
end PD
namespace PD
open PySem L2
def getD (kvs : List (PyData × PyData)) (k : PyData) : Option PyData := (kvs.find? fun z => eqK z.1 k).map (·.2)
end PD
namespace PD
open PySem PySem.Spec L2
open PyProof.Rows (AllBare)
def exIs (c d : Str) : Bool := decide (c = d) || (decide (d = "HuntError") || decide (d = "ValueError"))
end PD
namespace PD
open PySem PySem.Spec L2
open PyProof.Rows (AllBare)
def xfb (K : PySem.W.Frag) (c : Str) : Bool :=
  (PySem.W.clsIn K (He.ga K c)).isSome && (decide (PySem.W.findIn K (.ref (He.ga K c)) "__getattribute__" = some (some (.builtin "BaseException.__getattribute__"))) &&
    (decide (PySem.W.findIn K (.ref (He.ga K c)) "__getattr__" = some none) && (decide (PySem.W.subIn K (.ref (He.ga K c)) (.type "BaseException") = some true) &&
      (PySem.W.hasDictIn K (He.ga K c) && (decide (PySem.W.findIn K (.ref (He.ga K c)) "__class__" = some (some (.builtin "object.__class__"))) &&
        (decide (PySem.W.specialIn K (.builtin "object.__class__") "__get__" = some (some (.builtin "getset_descriptor.__get__"))) &&
          (decide (PySem.W.takesIn K (.builtin "object.__class__") = some true) && (decide (PySem.W.mroIn K (He.ga K c) (.type "object") = some true) && decide (PySem.W.typeIn K (.ref (He.ga K c)) = some (.type "type"))))))))))
end PD
namespace PD
open PySem PySem.Spec L2
open PyProof.Rows (AllBare)
def clU (K : PySem.W.Frag) (d : Str) : Value := if d = "ValueError" then .type "ValueError" else .ref (He.ga K d)
end PD
namespace PD
open PySem PySem.Spec L2
open PyProof.Rows (AllBare)
def kitF (K : PySem.W.Frag) (xs : List Str) (d : Str) : Bool := decide (PySem.W.kitOne K (.type "NoneType") (clU K d) = some false) && xs.all fun c => decide (PySem.W.kitOne K (.ref (He.ga K c)) (clU K d) = some (exIs c d))
end PD
namespace PD
open PySem PySem.Spec L2
open PyProof.Rows (AllBare)
def exmF (K : PySem.W.Frag) (xs : List Str) (d : Str) : Bool := xs.all fun c => decide (PySem.W.exmOne K (.ref (He.ga K c)) (.ref (He.ga K d)) = some (exIs c d))
end PD
namespace PD
open PySem PySem.Spec L2
open PyProof.Rows (AllBare)
def xallB (K : PySem.W.Frag) (xs ds hs fs : List Str) : Bool := (xs.all (xfb K)) && ((ds.all (kitF K xs)) && ((hs.all (exmF K xs)) && (xs.all fun c => fs.all fun f => decide (PySem.W.findIn K (.ref (He.ga K c)) f = some none))))
end PD
namespace PD
open PySem PySem.Spec L2
def huntB (K : PySem.W.Frag) : Bool := PySem.W.readsIn K (He.ga K "HuntError") (.type "type") && (decide (PySem.W.specialIn K (.ref (He.ga K "HuntError")) "__getattribute__" = some (some (.builtin "type.__getattribute__"))) &&
  (match PySem.W.findCls K (.ref (He.ga K "HuntError")) (.type "type") "__init__" with
    | some (.val (.builtin n)) => decide (n = "ValueError.__init__")
    | _ => false))
end PD
namespace PD
open PySem PySem.Spec L2
def oexB (K : PySem.W.Frag) (C : Addr) : Bool := (match K.lookup C with
  | some ⟨.type "type", _, .cls cd, sl⟩ => (match cd.mro, sl.toList with
    | .ref C' :: bm, [_, _, _, _, some (.builtin n), _] => C' == C && (n == "ValueError.__new__" && (!cd.hasDel && (cd.hasDict && PySem.HandSPX.refsVE bm)))
    | _, _ => false)
  | _ => false) && (decide (PySem.W.findIn K (.ref C) "__setattr__" = some (some (.builtin "object.__setattr__"))) && (decide (PySem.W.subIn K (.ref C) (.type "BaseException") = some true) && (decide (PySem.W.typeIn K (.ref C) = some (.type "type")) && PySem.W.keepIn K (.ref C))))
end PD
namespace PD
open PySem PySem.Spec L2
def isInit : Stmt → Bool
  | .FunctionDef n _ _ _ _ _ _ _ _ _ => decide (n = "__init__")
  | _ => false
end PD
namespace PD
open PySem PySem.Spec L2
def clsInit : Stmt → Stmt
  | .ClassDef _ _ _ body _ _ _ _ _ _ _ => (body.find? isInit).getD (.Pass ⟨0, 0, 0, 0⟩)
  | s => s
end PD
namespace PD
open PySem PySem.Spec L2
def iniB (K : PySem.W.Frag) (c : Str) : Bool := oexB K (He.ga K c) && (decide (PySem.W.findIn K (.ref (He.ga K c)) "__init__" = some (some (.ref (He.fAd K (c, some "__init__"))))) && decide (PySem.W.typeIn K (.ref (He.fAd K (c, some "__init__"))) = some (.type "function")))
end PD
namespace PD
open PySem PySem.Spec L2
def obsX (fx : List (PySem.W.Frag → Bool)) (fa : List He.Fa) (fn : List He.DefD) (K : PySem.W.Frag) : He.AlD := ((fx.all fun f => f K) && (He.obsD fa fn K).1, (He.obsD fa fn K).2)
end PD
namespace PD
open PySem PySem.Spec L2
def SaysX (fx : List (PySem.W.Frag → Bool)) (fa : List He.Fa) (fn : List He.DefD) (K : PySem.W.Frag) : Prop := obsX fx fa fn K = He.valD fn
end PD
namespace PD
open PySem PySem.Spec L2
def obsXG (n : Nat) (fx : List (PySem.W.Frag → Bool)) (fa : List He.Fa) (fn : List He.DefD) (g : Addr → Option Obj) : He.AlD := obsX fx fa fn (He.frG g (He.asD g n ++ [PySem.cStatics]))
end PD
namespace PD
open PySem PySem.Spec L2
def hookX (n : Nat) (fx : List (PySem.W.Frag → Bool)) (fa : List He.Fa) (fn : List He.DefD) : PySem.W.Hook where
  α := He.AlD
  obs := fun s => obsXG n fx fa fn s.heap.get?
  val := fun _ => He.valD fn
  says := fun _ h => ∃ K : PySem.W.Frag, K.In h ∧ SaysX fx fa fn K
  of := fun _ _ e => ⟨_, He.frG_in, e⟩
  keeps := fun _ _ _ ⟨K, hK, c⟩ k => ⟨K, PySem.W.Frag.In.keeps hK k, c⟩
end PD
namespace PDW
open PySem PySem.Spec PyProof.Rows L2 PD
def top (i : Nat) : Stmt := PySem.Challenge.pw_badbegins_k15_no_truth.main.body.getD i (.Pass ⟨0, 0, 0, 0⟩)
end PDW
namespace PDW
open PySem PySem.Spec PyProof.Rows L2 PD
def dd0 : He.DefD := ⟨("law", none), "law", "law", defArgs (top 39), defBody (top 39), defScope (top 39), [], []⟩
end PDW
namespace PDW
open PySem PySem.Spec PyProof.Rows L2 PD
def dd1 : He.DefD := ⟨("_law_feed", none), "_law_feed", "_law_feed", defArgs (top 26), defBody (top 26), defScope (top 26), [], []⟩
end PDW
namespace PDW
open PySem PySem.Spec PyProof.Rows L2 PD
def dd2 : He.DefD := ⟨("_law_cell_at", none), "_law_cell_at", "_law_cell_at", defArgs (top 25), defBody (top 25), defScope (top 25), [], []⟩
end PDW
namespace PDW
open PySem PySem.Spec PyProof.Rows L2 PD
def dd3 : He.DefD := ⟨("_law_net", none), "_law_net", "_law_net", defArgs (top 28), defBody (top 28), defScope (top 28), [], []⟩
end PDW
namespace PDW
open PySem PySem.Spec PyProof.Rows L2 PD
def dd4 : He.DefD := ⟨("_law_take", none), "_law_take", "_law_take", defArgs (top 27), defBody (top 27), defScope (top 27), [], []⟩
end PDW
namespace PDW
open PySem PySem.Spec PyProof.Rows L2 PD
def dd5 : He.DefD := ⟨("_law_from", none), "_law_from", "_law_from", defArgs (top 29), defBody (top 29), defScope (top 29), [], []⟩
end PDW
namespace PDW
open PySem PySem.Spec PyProof.Rows L2 PD
def dd6 : He.DefD := ⟨("_law_trials", none), "_law_trials", "_law_trials", defArgs (top 33), defBody (top 33), defScope (top 33), [], []⟩
end PDW
namespace PDW
open PySem PySem.Spec PyProof.Rows L2 PD
def dd7 : He.DefD := ⟨("_law_right", none), "_law_right", "_law_right", defArgs (top 38), defBody (top 38), defScope (top 38), [], []⟩
end PDW
namespace PDW
open PySem PySem.Spec PyProof.Rows L2 PD
def dd8 : He.DefD := ⟨("_law_speaks", none), "_law_speaks", "_law_speaks", defArgs (top 30), defBody (top 30), defScope (top 30), [], []⟩
end PDW
namespace PDW
open PySem PySem.Spec PyProof.Rows L2 PD
def dd9 : He.DefD := ⟨("_law_told", none), "_law_told", "_law_told", defArgs (top 34), defBody (top 34), defScope (top 34), [], []⟩
end PDW
namespace PDW
open PySem PySem.Spec PyProof.Rows L2 PD
def dd10 : He.DefD := ⟨("known", none), "known", "known", defArgs (top 23), defBody (top 23), defScope (top 23), [.int 0], []⟩
end PDW
namespace PDW
open PySem PySem.Spec PyProof.Rows L2 PD
def dd11 : He.DefD := ⟨("check_trials", none), "check_trials", "check_trials", defArgs (top 19), defBody (top 19), defScope (top 19), [], []⟩
end PDW
namespace PDW
open PySem PySem.Spec PyProof.Rows L2 PD
def dd12 : He.DefD := ⟨("bits_of", none), "bits_of", "bits_of", defArgs (top 15), defBody (top 15), defScope (top 15), [], []⟩
end PDW
namespace PDW
open PySem PySem.Spec PyProof.Rows L2 PD
def dd13 : He.DefD := ⟨("places_against", none), "places_against", "places_against", defArgs (top 21), defBody (top 21), defScope (top 21), [], []⟩
end PDW
namespace PDW
open PySem PySem.Spec PyProof.Rows L2 PD
def dd14 : He.DefD := ⟨("speaks", none), "speaks", "speaks", defArgs (top 20), defBody (top 20), defScope (top 20), [], []⟩
end PDW
namespace PDW
open PySem PySem.Spec PyProof.Rows L2 PD
def dd15 : He.DefD := ⟨("is_in", none), "is_in", "is_in", defArgs (top 16), defBody (top 16), defScope (top 16), [], []⟩
end PDW
namespace PDW
open PySem PySem.Spec PyProof.Rows L2 PD
def dd16 : He.DefD := ⟨("_law_is_alone", none), "_law_is_alone", "_law_is_alone", defArgs (top 32), defBody (top 32), defScope (top 32), [], []⟩
end PDW
namespace PDW
open PySem PySem.Spec PyProof.Rows L2 PD
def dd17 : He.DefD := ⟨("_law_is_rows", none), "_law_is_rows", "_law_is_rows", defArgs (top 35), defBody (top 35), defScope (top 35), [], []⟩
end PDW
namespace PDW
open PySem PySem.Spec PyProof.Rows L2 PD
def dd18 : He.DefD := ⟨("_law_whole", none), "_law_whole", "_law_whole", defArgs (top 31), defBody (top 31), defScope (top 31), [], []⟩
end PDW
namespace PDW
open PySem PySem.Spec PyProof.Rows L2 PD
def dd19 : He.DefD := ⟨("_law_no_trial", none), "_law_no_trial", "_law_no_trial", defArgs (top 36), defBody (top 36), defScope (top 36), [], []⟩
end PDW
namespace PDW
open PySem PySem.Spec PyProof.Rows L2 PD
def dd20 : He.DefD := ⟨("_law_put_in", none), "_law_put_in", "_law_put_in", defArgs (top 37), defBody (top 37), defScope (top 37), [], []⟩
end PDW
namespace PDW
open PySem PySem.Spec PyProof.Rows L2 PD
def dd21 : He.DefD := ⟨("NoTrial", some "__init__"), "__init__", "NoTrial.__init__", defArgs (clsInit (top 5)), defBody (clsInit (top 5)), defScope (clsInit (top 5)), [], []⟩
end PDW
namespace PDW
open PySem PySem.Spec PyProof.Rows L2 PD
def dd22 : He.DefD := ⟨("NoTruth", some "__init__"), "__init__", "NoTruth.__init__", defArgs (clsInit (top 6)), defBody (clsInit (top 6)), defScope (clsInit (top 6)), [], []⟩
end PDW
namespace PDW
open PySem PySem.Spec PyProof.Rows L2 PD
def fnD : List He.DefD := [dd0, dd1, dd2, dd3, dd4, dd5, dd6, dd7, dd8, dd9, dd10, dd11, dd12, dd13, dd14, dd15, dd16, dd17, dd18, dd19, dd20, dd21, dd22]
end PDW
namespace PDW
open PySem PySem.Spec PyProof.Rows L2 PD
def faD : List He.Fa := ([.glo "law", .glo "_law_feed", .glo "_law_cell_at", .glo "_law_net", .glo "_law_take", .glo "_law_from", .glo "_law_trials", .glo "_law_right", .glo "_law_speaks", .glo "_law_told", .glo "known", .glo "check_trials"] : List He.Fa) ++ ([.glo "bits_of", .glo "places_against", .glo "speaks", .glo "is_in", .glo "_law_is_alone", .glo "_law_is_rows", .glo "_law_whole", .glo "_law_no_trial", .glo "_law_put_in", .free "range", .free "max", .free "min"] : List He.Fa) ++ ([.free "len", .free "tuple", .free "int", .free "enumerate", .free "isinstance", .free "ValueError", .free "list", .free "bool", .glo "NoTrial", .glo "NoTruth", .glo "HuntError", .glo "NoBook"] : List He.Fa) ++ ([.glo "NoMake", .glo "NoName", .glo "NoNet", .glo "NoOrder", .glo "NoPlan", .glo "NoRow", .glo "NoText", .glo "NothingTold", .glo "TooGreat", .glo "ANSWERS"] : List He.Fa)
end PDW
namespace PDW
open PySem PySem.Spec PyProof.Rows L2 PD
def fxD : List (PySem.W.Frag → Bool) := [fun K => He.tupB K "ANSWERS" [.str "good", .str "bad", .str "cannot"], fun K => PD.xallB K ["NoTrial", "NoTruth"] ["HuntError", "NoBook", "NoMake", "NoName", "NoNet", "NoOrder", "NoPlan", "NoRow", "NoText", "NoTrial", "NoTruth", "NothingTold", "TooGreat", "ValueError"] ["HuntError"] ["place", "rows"], PD.huntB, fun K => PD.iniB K "NoTrial", fun K => PD.iniB K "NoTruth"]
end PDW
namespace PDW
open PySem PySem.Spec PyProof.Rows L2 PD
abbrev RR : PySem.W.OpenRow := PySem.W.OpenLaw.row PySem.Challenge.rw_badbegins_k15_no_truth
end PDW
namespace PDW
open PySem PySem.Spec PyProof.Rows L2 PD
abbrev hkD : PySem.W.Hook := PD.hookX 4 fxD faD fnD
end PDW
namespace PDW
open PySem PySem.Spec PyProof.Rows L2 PD
def obD (z : PySem.W.SharedT) : He.AlD := PD.obsXG 4 fxD faD fnD (HandSHeadRun.getT z)
end PDW
namespace PDW
open PySem PySem.Spec PyProof.Rows L2 PD
def looseD : List Str := (["HuntError", "NoNet", "NoOrder", "NoMake", "NoTrial", "NoTruth", "NoPlan", "NoBook", "TooGreat", "NoText", "NoName", "NothingTold"] : List Str) ++ (["NoRow", "bits_of", "is_in", "ANSWERS", "check_trials", "speaks", "places_against", "known", "_law_cell_at", "_law_feed", "_law_take", "_law_net"] : List Str) ++ (["_law_from", "_law_speaks", "_law_whole", "_law_is_alone", "_law_trials", "_law_told", "_law_is_rows", "_law_no_trial", "_law_put_in", "_law_right"] : List Str)
end PDW
namespace PDW
open PySem PySem.Spec PyProof.Rows L2 PD
theorem runD (w : World) : HandSHeadRun.RunEq RR (PySem.W.view RR.prog [39]) hkD obD 4000 looseD w := by
  intro os
  kernel_rfl
end PDW
end
namespace PD
open PySem PySem.Spec L2
open PyProof.Rows hiding St
mutual
def nkD : PyData → Option NestedKey
  | .none => some .none
  | .bool b => some (.num (if b then 1 else 0))
  | .int i => some (.num i)
  | .tuple xs => (nkDs xs).map .tup
  | _ => none
def nkDs : List PyData → Option (List NestedKey)
  | [] => some []
  | x :: xs => match nkD x with
    | some k => (nkDs xs).map (k :: ·)
    | none => none
end
mutual
def noT : NestedKey → Bool
  | .text _ => false
  | .tup ks => noTs ks
  | _ => true
def noTs : List NestedKey → Bool
  | [] => true
  | k :: ks => noT k && noTs ks
end
def NdP (a : Addr) (rs : List (NestedKey × Addr × V)) : Heap → Prop := fun h => rs.length ≤ sizeLine ∧ (a == sysModules) = false ∧ (∀ r ∈ rs, noT r.1 = true) ∧
  ∃ (w' : World) (xs : List (NestedKey × Addr × Value)) (o : Obj) (es : Array DictEntry) (ep : Nat), Paired (fun (p : NestedKey × Addr × V) (q : NestedKey × Addr × Value) => p.1 = q.1 ∧ p.2.1 = q.2.1 ∧ RelV p.2.2 q.2.2) rs xs ∧
    h.get? a = some o ∧ o.ExactDict ∧ o.data = .dict es ep ∧ es.toList = xs.map (fun x => (⟨x.1.hash w', .ref x.2.1, x.2.2⟩ : DictEntry)) ∧ (xs.map (·.1)).Nodup
def NdO (a : Addr) (rs : List (NestedKey × Addr × V)) : HO := .ext (NdP a rs)
def ndGet (rs : List (NestedKey × Addr × V)) (k : NestedKey) : Option V := (rs.find? fun r => decide (r.1 = k)).map (·.2.2)
def ndPut (rs : List (NestedKey × Addr × V)) (k : NestedKey) (b : Addr) (v : V) : List (NestedKey × Addr × V) := if rs.any (fun r => decide (r.1 = k)) then rs.map (fun r => if r.1 = k then (r.1, r.2.1, v) else r) else rs ++ [(k, b, v)]
section
variable {X : Cx} {pins : List (Addr × Obj)} {σ : St} {H : Hp} {s : Shared} {a b : Addr} {A : Around} {E : Value → Shared → Prop} {rs : List (NestedKey × Addr × V)} {k : NestedKey} {v : V} {r : Value}
end
end PD
set_option Elab.async false
set_option linter.all false
set_option maxRecDepth 100000
set_option maxHeartbeats 4000000
namespace PD
open PySem L2
abbrev Rg := Addr → HO → Prop
def LsR (K : PySem.W.Frag) (G : Rg) (a : Addr) (xs : List V) : Prop :=
  G a (.lst xs) ∨ (∃ o, G a (.frz o (.lst xs))) ∨ SqL K (fun _ => none) a xs
def keyD : Key → PyData
  | .inl i => .int i
  | .inr x => .str x
inductive Dk where
  | k
  | t
  | n
def encK (ks : List PyData) : List PyData := PyData.none :: ks.flatMap fun d => [d, .none]
def encV (rs : List (NestedKey × Addr × V)) : List V := V.non :: rs.flatMap fun r => [r.2.2, .ref r.2.1]
def DcO : Dk → Addr → HO → List PyData → List V → Prop
  | .k, _, o, ks, vs => ∃ kvs : List (Key × V), o = .dK kvs ∧ ks = kvs.map (fun z => keyD z.1) ∧ vs = kvs.map (·.2)
  | .t, _, o, ks, vs => ∃ kvs : List (List Key × V), o = .dT kvs ∧ ks = kvs.map (fun z => .tuple (z.1.map keyD)) ∧ vs = kvs.map (·.2)
  | .n, a, o, ks, vs => ∃ (rs : List (NestedKey × Addr × V)) (kds : List PyData), o = NdO a rs ∧ kds.map nkD = rs.map (fun r => some r.1) ∧ (∀ r ∈ rs, r.1.depth ≤ 8) ∧ ks = encK kds ∧ vs = encV rs
def XvO (K : PySem.W.Frag) (nm : Str) (d : Option Addr) (a : Addr) : HO :=
  .ext fun h => ∃ (oe : Obj) (vs : Array Value), h.get? a = some oe ∧ Zc (.ref (He.ga K nm)) d oe ∧ oe.data = .fields vs ∧ vs[2]? = some .none
abbrev inD (nm : Str) (flds : List (Str × PyData)) : PyData := .dict ((.bool true, .str nm) :: flds.map fun z => (PyData.str z.1, z.2))
def dkD : Dk → PyData
  | .k => .int 0
  | .t => .int 1
  | .n => .int 2
abbrev udD (t : Dk) (kvs : List (PyData × PyData)) : PyData := .dict ((.bool false, dkD t) :: kvs)
abbrev sepD (dss : List (List PyData)) : PyData := .dict ((.bool true, .int 0) :: dss.map fun ds => (PyData.none, .list ds))
def RowsG (G : Rg) : List Addr → List (List V) → Prop
  | [], [] => True
  | q :: qs, vs :: vss => G q (.lst vs) ∧ RowsG G qs vss
  | _, _ => False
theorem RowsG.mono {G G' : Rg} (g : ∀ a o, G a o → G' a o) : ∀ {qs : List Addr} {vss : List (List V)}, RowsG G qs vss → RowsG G' qs vss
  | [], [], _ => trivial
  | _ :: _, _ :: _, h => ⟨g _ _ h.1, RowsG.mono g h.2⟩
  | [], _ :: _, h => h.elim
  | _ :: _, [], h => h.elim
abbrev xcD (nm : Str) (flds : List (Str × PyData)) : PyData := .dict ((.none, .str nm) :: flds.map fun z => (PyData.str z.1, z.2))
mutual
inductive Dn (K : PySem.W.Frag) (G : Rg) (H : Hp) : V → PyData → Prop
  | non : Dn K G H .non .none
  | bl (b : Bool) : Dn K G H (.bl b) (.bool b)
  | int (i : Int) : Dn K G H (.int i) (.int i)
  | str (x : Str) : Dn K G H (.str x) (.str x)
  | lst {a : Addr} {xs : List V} {ds : List PyData} : LsR K G a xs → DnA K G H xs ds → Dn K G H (.ref a) (.list ds)
  | tup {a : Addr} {xs : List V} {ds : List PyData} : H a = some (.tup xs) → DnA K G H xs ds → Dn K G H (.ref a) (.tuple ds)
  | dct {a : Addr} {o : HO} {t : Dk} {vs : List V} {kvs : List (PyData × PyData)} : (∃ ob, G a (.frz ob o)) → DcO t a o (kvs.map (·.1)) vs → DnA K G H vs (kvs.map (·.2)) → Dn K G H (.ref a) (.dict kvs)
  | exc {a dd : Addr} {nm : Str} {fs : List (Str × V)} {flds : List (Str × PyData)} : G a (XvO K nm (some dd) a) → G dd (.xd fs) → fs.map (·.1) = flds.map (·.1) → DnA K G H (fs.map (·.2)) (flds.map (·.2)) → Dn K G H (.ref a) (xcD nm flds)
  | exc0 {a : Addr} {nm : Str} : G a (XvO K nm none a) → Dn K G H (.ref a) (xcD nm [])
  | ins {a dx : Addr} {nm : Str} {fs : List (Str × V)} {flds : List (Str × PyData)} : G a (.ins (He.ga K nm) dx fs) → G dx (.own a) → fs.map (·.1) = flds.map (·.1) → DnA K G H (fs.map (·.2)) (flds.map (·.2)) → Dn K G H (.ref a) (inD nm flds)
  | dcu {a : Addr} {o : HO} {t : Dk} {vs : List V} {kvs : List (PyData × PyData)} : G a o → DcO t a o (kvs.map (·.1)) vs → DnA K G H vs (kvs.map (·.2)) → Dn K G H (.ref a) (udD t kvs)
  | row {a : Addr} {qs : List Addr} {vss : List (List V)} {dss : List (List PyData)} : G a (.lst (qs.map V.ref)) → qs.Nodup → a ∉ qs → RowsG G qs vss → vss.map (·.length) = dss.map (·.length) → DnA K G H vss.flatten dss.flatten → Dn K G H (.ref a) (sepD dss)
inductive DnA (K : PySem.W.Frag) (G : Rg) (H : Hp) : List V → List PyData → Prop
  | nil : DnA K G H [] []
  | cons {v : V} {vs : List V} {d : PyData} {ds : List PyData} : Dn K G H v d → DnA K G H vs ds → DnA K G H (v :: vs) (d :: ds)
end
def TupLe (H H' : Hp) : Prop := ∀ a xs, H a = some (.tup xs) → H' a = some (.tup xs)
theorem TupLe.rf (H : Hp) : TupLe H H := fun _ _ h => h
theorem TupLe.tr {H H1 H2 : Hp} (a : TupLe H H1) (b : TupLe H1 H2) : TupLe H H2 := fun c xs h => b c xs (a c xs h)
def RgLe (G G' : Rg) : Prop := ∀ a o, G a o → G' a o
theorem LsR.mono {K : PySem.W.Frag} {G G' : Rg} {a : Addr} {xs : List V} (h : LsR K G a xs) (g : RgLe G G') : LsR K G' a xs := by
  rcases h with h | ⟨o, h⟩ | h
  · exact .inl (g _ _ h)
  · exact .inr (.inl ⟨o, g _ _ h⟩)
  · exact .inr (.inr h)
mutual
theorem Dn.mono {K : PySem.W.Frag} {G G' : Rg} {H H' : Hp} (g : RgLe G G') (t : TupLe H H') : ∀ {v : V} {d : PyData}, Dn K G H v d → Dn K G' H' v d
  | _, _, .non => .non
  | _, _, .bl b => .bl b
  | _, _, .int i => .int i
  | _, _, .str x => .str x
  | _, _, .lst h a => .lst (h.mono g) (DnA.mono g t a)
  | _, _, .tup h a => .tup (t _ _ h) (DnA.mono g t a)
  | _, _, .dct h c a => .dct (h.imp fun _ z => g _ _ z) c (DnA.mono g t a)
  | _, _, .exc h1 h2 e a => .exc (g _ _ h1) (g _ _ h2) e (DnA.mono g t a)
  | _, _, .exc0 h => .exc0 (g _ _ h)
  | _, _, .ins h1 h2 e a => .ins (g _ _ h1) (g _ _ h2) e (DnA.mono g t a)
  | _, _, .dcu h c a => .dcu (g _ _ h) c (DnA.mono g t a)
  | _, _, .row h n m r l a => .row (g _ _ h) n m (r.mono g) l (DnA.mono g t a)
theorem DnA.mono {K : PySem.W.Frag} {G G' : Rg} {H H' : Hp} (g : RgLe G G') (t : TupLe H H') : ∀ {vs : List V} {ds : List PyData}, DnA K G H vs ds → DnA K G' H' vs ds
  | _, _, .nil => .nil
  | _, _, .cons h a => .cons (Dn.mono g t h) (DnA.mono g t a)
end
def flat : PyData → Bool
  | .none => true
  | .bool _ => true
  | .int _ => true
  | .str _ => true
  | .tuple xs => flatA xs
  | _ => false
where flatA : List PyData → Bool
  | [] => true
  | d :: ds => flat d && flatA ds
mutual
theorem Dn.free {K : PySem.W.Frag} {G G' : Rg} {H : Hp} : ∀ {v : V} {d : PyData}, Dn K G H v d → flat d = true → Dn K G' H v d
  | _, _, .non, _ => .non
  | _, _, .bl b, _ => .bl b
  | _, _, .int i, _ => .int i
  | _, _, .str x, _ => .str x
  | _, _, .lst _ _, h => by simp [flat] at h
  | _, _, .tup h a, f => .tup h (DnA.free a (by simpa [flat] using f))
  | _, _, .dct _ _ _, h => by simp [flat] at h
  | _, _, .exc _ _ _ _, h => by simp [flat] at h
  | _, _, .exc0 _, h => by simp [flat] at h
  | _, _, .ins _ _ _ _, h => by simp [flat] at h
  | _, _, .dcu _ _ _, h => by simp [flat] at h
  | _, _, .row _ _ _ _ _ _, h => by simp [flat] at h
theorem DnA.free {K : PySem.W.Frag} {G G' : Rg} {H : Hp} : ∀ {vs : List V} {ds : List PyData}, DnA K G H vs ds → flat.flatA ds = true → DnA K G' H vs ds
  | _, _, .nil, _ => .nil
  | _, _, .cons h a, f => by
    simp only [flat.flatA, Bool.and_eq_true] at f
    exact .cons (Dn.free h f.1) (DnA.free a f.2)
end
theorem DnA.length {K : PySem.W.Frag} {G : Rg} {H : Hp} : ∀ {vs : List V} {ds : List PyData}, DnA K G H vs ds → vs.length = ds.length
  | _, _, .nil => rfl
  | _, _, .cons _ a => by simp [a.length]
theorem DnA.get {K : PySem.W.Frag} {G : Rg} {H : Hp} : ∀ {vs : List V} {ds : List PyData} {i : Nat} {v : V}, DnA K G H vs ds → vs[i]? = some v → ∃ d, ds[i]? = some d ∧ Dn K G H v d
  | _, _, _, _, .nil, e => by simp at e
  | _, _, 0, _, .cons h _, e => by simp at e; subst e; exact ⟨_, rfl, h⟩
  | _, _, i + 1, v, .cons _ a, e => by
    obtain ⟨d, h1, h2⟩ := DnA.get (i := i) (v := v) a (by simpa using e)
    exact ⟨d, by simpa using h1, h2⟩
theorem DnA.get' {K : PySem.W.Frag} {G : Rg} {H : Hp} : ∀ {vs : List V} {ds : List PyData} {i : Nat} {d : PyData}, DnA K G H vs ds → ds[i]? = some d → ∃ v, vs[i]? = some v ∧ Dn K G H v d
  | _, _, _, _, .nil, e => by simp at e
  | _, _, 0, _, .cons h _, e => by simp at e; subst e; exact ⟨_, rfl, h⟩
  | _, _, i + 1, v, .cons _ a, e => by
    obtain ⟨d, h1, h2⟩ := DnA.get' (i := i) (d := v) a (by simpa using e)
    exact ⟨d, by simpa using h1, h2⟩
theorem DnA.append {K : PySem.W.Frag} {G : Rg} {H : Hp} : ∀ {vs ws : List V} {ds es : List PyData}, DnA K G H vs ds → DnA K G H ws es → DnA K G H (vs ++ ws) (ds ++ es)
  | _, _, _, _, .nil, b => b
  | _, _, _, _, .cons h a, b => .cons h (DnA.append a b)
theorem DnA.drop {K : PySem.W.Frag} {G : Rg} {H : Hp} : ∀ {vs : List V} {ds : List PyData} (n : Nat), DnA K G H vs ds → DnA K G H (vs.drop n) (ds.drop n)
  | _, _, 0, a => a
  | _, _, _ + 1, .nil => .nil
  | _, _, n + 1, .cons _ a => DnA.drop n a
theorem DnA.take {K : PySem.W.Frag} {G : Rg} {H : Hp} : ∀ {vs : List V} {ds : List PyData} (n : Nat), DnA K G H vs ds → DnA K G H (vs.take n) (ds.take n)
  | _, _, 0, _ => .nil
  | _, _, _ + 1, .nil => .nil
  | _, _, n + 1, .cons h a => .cons h (DnA.take n a)
theorem DnA.set {K : PySem.W.Frag} {G : Rg} {H : Hp} {v : V} {d : PyData} (h : Dn K G H v d) : ∀ {vs : List V} {ds : List PyData} (i : Nat), DnA K G H vs ds → DnA K G H (vs.set i v) (ds.set i d)
  | _, _, _, .nil => .nil
  | _, _, 0, .cons _ a => .cons h a
  | _, _, i + 1, .cons q a => .cons q (DnA.set h i a)
theorem DnA.reverse {K : PySem.W.Frag} {G : Rg} {H : Hp} : ∀ {vs : List V} {ds : List PyData}, DnA K G H vs ds → DnA K G H vs.reverse ds.reverse
  | _, _, .nil => .nil
  | _, _, .cons h a => by
    rw [List.reverse_cons, List.reverse_cons]
    exact DnA.append (DnA.reverse a) (.cons h .nil)
theorem dn_int {K : PySem.W.Frag} {G : Rg} {H : Hp} {v : V} {i : Int} (h : Dn K G H v (.int i)) : v = .int i := by cases h; rfl
theorem dn_bool {K : PySem.W.Frag} {G : Rg} {H : Hp} {v : V} {b : Bool} (h : Dn K G H v (.bool b)) : v = .bl b := by cases h; rfl
theorem dn_str {K : PySem.W.Frag} {G : Rg} {H : Hp} {v : V} {x : Str} (h : Dn K G H v (.str x)) : v = .str x := by cases h; rfl
theorem dn_none {K : PySem.W.Frag} {G : Rg} {H : Hp} {v : V} (h : Dn K G H v .none) : v = .non := by cases h; rfl
theorem dn_list {K : PySem.W.Frag} {G : Rg} {H : Hp} {v : V} {ds : List PyData} (h : Dn K G H v (.list ds)) : ∃ a xs, v = .ref a ∧ LsR K G a xs ∧ DnA K G H xs ds := by
  cases h with | lst h a => exact ⟨_, _, rfl, h, a⟩
theorem dn_tupleH {K : PySem.W.Frag} {G : Rg} {H : Hp} {v : V} {ds : List PyData} (h : Dn K G H v (.tuple ds)) : ∃ a xs, v = .ref a ∧ H a = some (.tup xs) ∧ DnA K G H xs ds := by
  cases h with | tup h a => exact ⟨_, _, rfl, h, a⟩
theorem dn_tuple {K : PySem.W.Frag} {G : Rg} {H : Hp} {v : V} {ds : List PyData} (h : Dn K G H v (.tuple ds)) : ∃ a xs, v = .ref a ∧ SqT K H a xs ∧ DnA K G H xs ds := by
  cases h with | tup h a => exact ⟨_, _, rfl, SqT.of h, a⟩
theorem dna_ints {K : PySem.W.Frag} {G : Rg} {H : Hp} : ∀ {ns : List Int} {vs : List V}, DnA K G H vs (ns.map PyData.int) → vs = ns.map V.int
  | [], _, .nil => rfl
  | n :: ns, _, .cons h a => by rw [dn_int h, dna_ints a]; rfl
theorem ints_dna {K : PySem.W.Frag} {G : Rg} {H : Hp} : ∀ (ns : List Int), DnA K G H (ns.map V.int) (ns.map PyData.int)
  | [] => .nil
  | n :: ns => .cons (.int n) (ints_dna ns)
abbrev RgH (H : Hp) : Rg := fun a o => H a = some o
theorem LsR.sq {K : PySem.W.Frag} {H : Hp} {a : Addr} {xs : List V} (h : LsR K (RgH H) a xs) : SqL K H a xs := by
  rcases h with h | ⟨o, h⟩ | h
  · exact .inl (.inl h)
  · exact .inl (.inr ⟨o, h⟩)
  · rcases h with (h | ⟨o, h⟩) | h
    · cases h
    · cases h
    · exact .inr h
theorem LsR.of_sq {K : PySem.W.Frag} {H : Hp} {a : Addr} {xs : List V} (h : SqL K H a xs) : LsR K (RgH H) a xs := by
  rcases h with (h | ⟨o, h⟩) | h
  · exact .inl h
  · exact .inr (.inl ⟨o, h⟩)
  · exact .inr (.inr (.inr h))
mutual
theorem Dn.dp {K : PySem.W.Frag} {H : Hp} : ∀ {v : V} {d : PyData}, Dn K (RgH H) H v d → d.canLay0 = true → Dp K H v d
  | _, _, .non, _ => .non
  | _, _, .bl b, _ => .bl b
  | _, _, .int i, _ => .int i
  | _, _, .str x, _ => .str x
  | _, _, .lst h a, c => .lst h.sq (DnA.dp a (by rw [PyData.canLay0] at c; exact c))
  | _, _, .tup h a, c => .tup (SqT.of h) (DnA.dp a (by rw [PyData.canLay0] at c; exact c))
  | _, _, .dct _ _ _, c => by rw [PyData.canLay0] at c; cases c
  | _, _, .exc _ _ _ _, c => by rw [PyData.canLay0] at c; cases c
  | _, _, .exc0 _, c => by rw [PyData.canLay0] at c; cases c
  | _, _, .ins _ _ _ _, c => by rw [PyData.canLay0] at c; cases c
  | _, _, .dcu _ _ _, c => by rw [PyData.canLay0] at c; cases c
  | _, _, .row _ _ _ _ _ _, c => by rw [PyData.canLay0] at c; cases c
theorem DnA.dp {K : PySem.W.Frag} {H : Hp} : ∀ {vs : List V} {ds : List PyData}, DnA K (RgH H) H vs ds → PyData.canLayAll0 ds = true → DpAll K H vs ds
  | _, _, .nil, _ => .nil
  | _, _, .cons h a, c => by
    rw [PyData.canLayAll0, Bool.and_eq_true] at c
    exact .cons (Dn.dp h c.1) (DnA.dp a c.2)
end
theorem Dn.dps {K : PySem.W.Frag} {H : Hp} {v : V} {d : PyData} (h : Dn K (RgH H) H v d) (c : SeqAt.shaped d = true) : Dp K H v d := h.dp (SeqAt.canLay_of_shaped c)
structure Gh where
  H0 : Hp
  P : List Addr
  I : Nat → Option V
  N : Hp
  E : Hp
abbrev RgN (G : Gh) : Rg := fun a o => G.N a = some o
def RgA (G : Gh) : Rg := fun a o => G.N a = some o ∨ (G.H0 a = some o ∧ a ∉ G.P)
def rg (G : Gh) : Bool → Rg
  | true => RgN G
  | false => RgA G
structure Wf (G : Gh) (H : Hp) : Prop where
  keep : ∀ a o, G.H0 a = some o → a ∉ G.P → H a = some o
  new : ∀ a o, G.N a = some o → H a = some o ∧ True
  pal : ∀ a, a ∈ G.P → H a ≠ none
  p0 : ∀ a, a ∈ G.P → G.H0 a ≠ none
  ex : ∀ a o, G.E a = some o → H a = some o ∧ G.N a = none ∧ G.H0 a = none ∧ a ∉ G.P
  iv : ∀ i p, G.I i = some (.ref p) → p ∈ G.P ∨ G.E p ≠ none ∨ ∃ xs, H p = some (.tup xs)
theorem Wf.rgl {G : Gh} {H : Hp} (w : Wf G H) (fr : Bool) : RgLe (rg G fr) (RgH H) := fun a o h => by
  cases fr with
  | true => exact (w.new a o h).1
  | false =>
    rcases h with h | ⟨h1, h2⟩
    · exact (w.new a o h).1
    · exact w.keep a o h1 h2
theorem Wf.dn {K : PySem.W.Frag} {G : Gh} {H : Hp} {fr : Bool} {v : V} {d : PyData} (w : Wf G H) (h : Dn K (rg G fr) H v d) : Dn K (RgH H) H v d := h.mono (w.rgl fr) (TupLe.rf _)
theorem rg_ff (G : Gh) (fr : Bool) : RgLe (rg G fr) (rg G false) := fun a o h => by
  cases fr with
  | true => exact .inl h
  | false => exact h
structure Ext (G : Gh) (H : Hp) (G' : Gh) (H' : Hp) : Prop where
  h0 : G'.H0 = G.H0
  p : G'.P = G.P
  i : G'.I = G.I
  e : G'.E = G.E
  n : ∀ a o, G.N a = some o → G'.N a = some o
  nn : ∀ a o, G'.N a = some o → G.N a = some o ∨ G.H0 a = none
  t : TupLe H H'
  w : Wf G' H'
theorem Ext.rf {G : Gh} {H : Hp} (w : Wf G H) : Ext G H G H := ⟨rfl, rfl, rfl, rfl, fun _ _ h => h, fun _ _ h => .inl h, TupLe.rf _, w⟩
theorem Ext.tr {G G1 G2 : Gh} {H H1 H2 : Hp} (a : Ext G H G1 H1) (b : Ext G1 H1 G2 H2) : Ext G H G2 H2 :=
  ⟨b.h0.trans a.h0, b.p.trans a.p, b.i.trans a.i, b.e.trans a.e, fun c o h => b.n c o (a.n c o h), fun c o h => (b.nn c o h).elim (a.nn c o) (fun z => .inr (by rw [← a.h0]; exact z)), a.t.tr b.t, b.w⟩
theorem Ext.rgl {G G' : Gh} {H H' : Hp} (e : Ext G H G' H') (fr : Bool) : RgLe (rg G fr) (rg G' fr) := fun a o h => by
  cases fr with
  | true => exact e.n a o h
  | false =>
    rcases h with h | ⟨h1, h2⟩
    · exact .inl (e.n a o h)
    · exact .inr ⟨by rw [e.h0]; exact h1, by rw [e.p]; exact h2⟩
theorem Ext.dn {K : PySem.W.Frag} {G G' : Gh} {H H' : Hp} {fr : Bool} {v : V} {d : PyData} (e : Ext G H G' H') (h : Dn K (rg G fr) H v d) : Dn K (rg G' fr) H' v d := h.mono (e.rgl fr) e.t
theorem Ext.dna {K : PySem.W.Frag} {G G' : Gh} {H H' : Hp} {fr : Bool} {v : List V} {d : List PyData} (e : Ext G H G' H') (h : DnA K (rg G fr) H v d) : DnA K (rg G' fr) H' v d := h.mono (e.rgl fr) e.t
structure Le (G : Gh) (H : Hp) (G' : Gh) (H' : Hp) : Prop where
  h0 : G'.H0 = G.H0
  p : G'.P = G.P
  n : ∀ a o, G.N a = some o → G'.N a = some o
  nn : ∀ a o, G'.N a = some o → G.N a = some o ∨ G.H0 a = none
  t : TupLe H H'
  w : Wf G' H'
  e : ∀ a o, G.E a = some o → G'.E a = some o
theorem Ext.le {G G' : Gh} {H H' : Hp} (e : Ext G H G' H') : Le G H G' H' := ⟨e.h0, e.p, e.n, e.nn, e.t, e.w, fun a o h => by rw [e.e]; exact h⟩
theorem Le.tr {G G1 G2 : Gh} {H H1 H2 : Hp} (a : Le G H G1 H1) (b : Le G1 H1 G2 H2) : Le G H G2 H2 := ⟨b.h0.trans a.h0, b.p.trans a.p, fun c o h => b.n c o (a.n c o h), fun c o h => (b.nn c o h).elim (a.nn c o) (fun z => .inr (by rw [← a.h0]; exact z)), a.t.tr b.t, b.w, fun c o h => b.e c o (a.e c o h)⟩
theorem Le.rgl {G G' : Gh} {H H' : Hp} (e : Le G H G' H') (fr : Bool) : RgLe (rg G fr) (rg G' fr) := fun a o h => by
  cases fr with
  | true => exact e.n a o h
  | false =>
    rcases h with h | ⟨h1, h2⟩
    · exact .inl (e.n a o h)
    · exact .inr ⟨by rw [e.h0]; exact h1, by rw [e.p]; exact h2⟩
theorem Le.dna {K : PySem.W.Frag} {G G' : Gh} {H H' : Hp} {fr : Bool} {v : List V} {d : List PyData} (e : Le G H G' H') (h : DnA K (rg G fr) H v d) : DnA K (rg G' fr) H' v d := h.mono (e.rgl fr) e.t
abbrev Fd := List Int × Int × Int
def fdK (l : Addr) (t s : Int) : List (Key × V) := [(.inr "cells", .ref l), (.inr "turn", .int t), (.inr "seed", .int s)]
inductive Tre where
  | d (x : PyData)
  | lst (ts : List Tre)
  | tup (ts : List Tre)
  | dic (t : Dk) (ks : List PyData) (ts : List Tre)
  | ins (nm : Str) (fs : List Str) (ts : List Tre)
mutual
inductive TreOk (K : PySem.W.Frag) (G : Rg) (H : Hp) : V → List Addr → Tre → Prop
  | d {v : V} {x : PyData} : Dn K G H v x → TreOk K G H v [] (.d x)
  | lst {p : Addr} {vs : List V} {fp : List Addr} {ts : List Tre} : H p = some (.lst vs) → TresOk K G H vs fp ts → p ∉ fp → TreOk K G H (.ref p) (p :: fp) (.lst ts)
  | tup {p : Addr} {vs : List V} {fp : List Addr} {ts : List Tre} : H p = some (.tup vs) → TresOk K G H vs fp ts → TreOk K G H (.ref p) fp (.tup ts)
  | dic {p : Addr} {o : HO} {t : Dk} {ks : List PyData} {vs : List V} {fp : List Addr} {ts : List Tre} : H p = some o → DcO t p o ks vs → TresOk K G H vs fp ts → p ∉ fp → TreOk K G H (.ref p) (p :: fp) (.dic t ks ts)
  | ins {p dx : Addr} {nm : Str} {fs : List (Str × V)} {fp : List Addr} {ts : List Tre} : H p = some (.ins (He.ga K nm) dx fs) → H dx = some (.own p) → p ≠ dx → TresOk K G H (fs.map (·.2)) fp ts → p ∉ fp → dx ∉ fp → TreOk K G H (.ref p) (p :: dx :: fp) (.ins nm (fs.map (·.1)) ts)
inductive TresOk (K : PySem.W.Frag) (G : Rg) (H : Hp) : List V → List Addr → List Tre → Prop
  | nil : TresOk K G H [] [] []
  | cons {v : V} {vs : List V} {f1 f2 : List Addr} {t : Tre} {ts : List Tre} : TreOk K G H v f1 t → TresOk K G H vs f2 ts → (∀ p ∈ f1, p ∉ f2) → TresOk K G H (v :: vs) (f1 ++ f2) (t :: ts)
end
mutual
theorem TreOk.mono {K : PySem.W.Frag} {G G' : Rg} {H H' : Hp} (g : RgLe G G') (t : TupLe H H') : ∀ {v : V} {fp : List Addr} {T : Tre}, TreOk K G H v fp T → (∀ a ∈ fp, H' a = H a) → TreOk K G' H' v fp T
  | _, _, _, .d h, _ => .d (h.mono g t)
  | _, _, _, .lst h a n, k => .lst (by rw [k _ (by simp)]; exact h) (TresOk.mono g t a fun q hq => k q (by simp [hq])) n
  | _, _, _, .tup h a, k => .tup (t _ _ h) (TresOk.mono g t a k)
  | _, _, _, .dic h c a n, k => .dic (by rw [k _ (by simp)]; exact h) c (TresOk.mono g t a fun q hq => k q (by simp [hq])) n
  | _, _, _, .ins h1 h2 ne a n1 n2, k => .ins (by rw [k _ (by simp)]; exact h1) (by rw [k _ (by simp)]; exact h2) ne (TresOk.mono g t a fun q hq => k q (by simp [hq])) n1 n2
theorem TresOk.mono {K : PySem.W.Frag} {G G' : Rg} {H H' : Hp} (g : RgLe G G') (t : TupLe H H') : ∀ {vs : List V} {fp : List Addr} {ts : List Tre}, TresOk K G H vs fp ts → (∀ a ∈ fp, H' a = H a) → TresOk K G' H' vs fp ts
  | _, _, _, .nil, _ => .nil
  | _, _, _, .cons h a n, k => .cons (TreOk.mono g t h fun q hq => k q (by simp [hq])) (TresOk.mono g t a fun q hq => k q (by simp [hq])) n
end
def Nt (H : Hp) (p : Addr) : Prop := ∃ o, H p = some o ∧ (∀ xs, o ≠ .tup xs) ∧ ∀ x y, o ≠ .frz x y
theorem DcO.nt {t : Dk} {a : Addr} {o : HO} {ks : List PyData} {vs : List V} (h : DcO t a o ks vs) : (∀ xs, o ≠ .tup xs) ∧ ∀ x y, o ≠ .frz x y := by
  cases t with
  | k => obtain ⟨_, rfl, _⟩ := h; exact ⟨fun _ z => (nomatch z), fun _ _ z => (nomatch z)⟩
  | t => obtain ⟨_, rfl, _⟩ := h; exact ⟨fun _ z => (nomatch z), fun _ _ z => (nomatch z)⟩
  | n => obtain ⟨_, _, rfl, _⟩ := h; exact ⟨fun _ z => (nomatch z), fun _ _ z => (nomatch z)⟩
mutual
theorem TreOk.nt {K : PySem.W.Frag} {G : Rg} {H : Hp} : ∀ {v : V} {fp : List Addr} {T : Tre}, TreOk K G H v fp T → ∀ p ∈ fp, Nt H p
  | _, _, _, .d h, p, hp => by cases hp
  | _, _, _, .lst h a n, p, hp => by
    rcases List.mem_cons.mp hp with rfl | hp
    · exact ⟨_, h, fun _ z => (nomatch z), fun _ _ z => (nomatch z)⟩
    · exact TresOk.nt a p hp
  | _, _, _, .tup h a, p, hp => TresOk.nt a p hp
  | _, _, _, .dic h c a n, p, hp => by
    rcases List.mem_cons.mp hp with rfl | hp
    · exact ⟨_, h, c.nt.1, c.nt.2⟩
    · exact TresOk.nt a p hp
  | _, _, _, .ins h1 h2 ne a n1 n2, p, hp => by
    rcases List.mem_cons.mp hp with rfl | hp
    · exact ⟨_, h1, fun _ z => (nomatch z), fun _ _ z => (nomatch z)⟩
    · rcases List.mem_cons.mp hp with rfl | hp
      · exact ⟨_, h2, fun _ z => (nomatch z), fun _ _ z => (nomatch z)⟩
      · exact TresOk.nt a p hp
theorem TresOk.nt {K : PySem.W.Frag} {G : Rg} {H : Hp} : ∀ {vs : List V} {fp : List Addr} {ts : List Tre}, TresOk K G H vs fp ts → ∀ p ∈ fp, Nt H p
  | _, _, _, .nil, p, hp => by cases hp
  | _, _, _, .cons h a n, p, hp => by
    rcases List.mem_append.mp hp with hp | hp
    · exact TreOk.nt h p hp
    · exact TresOk.nt a p hp
end
mutual
def trD : Tre → Option PyData
  | .d x => some x
  | .lst ts => (trDs ts).map PyData.list
  | .tup ts => (trDs ts).map PyData.tuple
  | .dic t ks ts => (trDs ts).map fun ds => udD t (ks.zip ds)
  | .ins nm fs ts => (trDs ts).map fun ds => inD nm (fs.zip ds)
def trDs : List Tre → Option (List PyData)
  | [] => some []
  | t :: ts => (trD t).bind fun d => (trDs ts).map (d :: ·)
end
theorem TresOk.len1 {K : PySem.W.Frag} {G : Rg} {H : Hp} : ∀ {vs : List V} {fp : List Addr} {ts : List Tre}, TresOk K G H vs fp ts → vs.length = ts.length
  | _, _, _, .nil => rfl
  | _, _, _, .cons _ a _ => by simp [TresOk.len1 a]
theorem trDs_len : ∀ {ts : List Tre} {ds : List PyData}, trDs ts = some ds → ts.length = ds.length
  | [], _, h => by rw [trDs] at h; cases h; rfl
  | t :: ts, ds, h => by
    rw [trDs] at h
    cases q : trD t with
    | none => rw [q] at h; cases h
    | some d =>
      rw [q] at h
      have h : (trDs ts).map (d :: ·) = some ds := h
      cases q2 : trDs ts with
      | none => rw [q2] at h; cases h
      | some es =>
        rw [q2] at h
        cases h
        simp [trDs_len q2]
theorem DcO.len {t : Dk} {a : Addr} {o : HO} {ks : List PyData} {vs : List V} (h : DcO t a o ks vs) : ks.length = vs.length := by
  cases t with
  | k => obtain ⟨kvs, _, rfl, rfl⟩ := h; simp
  | t => obtain ⟨kvs, _, rfl, rfl⟩ := h; simp
  | n =>
    obtain ⟨rs, kds, _, e, _, rfl, rfl⟩ := h
    have e : kds.length = rs.length := by have := congrArg List.length e; simpa using this
    have l1 : ∀ l : List PyData, (l.flatMap fun d => [d, PyData.none]).length = 2 * l.length := fun l => by
      induction l with
      | nil => rfl
      | cons x r ih => simp [ih]; omega
    have l2 : ∀ l : List (NestedKey × Addr × V), (l.flatMap fun r => [r.2.2, V.ref r.2.1]).length = 2 * l.length := fun l => by
      induction l with
      | nil => rfl
      | cons x r ih => simp [ih]; omega
    show (PyData.none :: _).length = (V.non :: _).length
    rw [List.length_cons, List.length_cons, l1, l2, e]
theorem zip_fst {α β : Type} {xs : List α} {ys : List β} (h : xs.length = ys.length) : (xs.zip ys).map (·.1) = xs := List.map_fst_zip (Nat.le_of_eq h)
theorem zip_snd {α β : Type} {xs : List α} {ys : List β} (h : xs.length = ys.length) : (xs.zip ys).map (·.2) = ys := List.map_snd_zip (Nat.le_of_eq h.symm)
mutual
theorem TreOk.dn {K : PySem.W.Frag} {G G' : Rg} {H : Hp} (g : RgLe G G') : ∀ {v : V} {fp : List Addr} {T : Tre}, TreOk K G H v fp T → (∀ a ∈ fp, ∀ o, H a = some o → G' a o) → ∀ d, trD T = some d → Dn K G' H v d
  | _, _, _, .d h, _, d, e => by
    rw [trD] at e
    cases e
    exact h.mono g (TupLe.rf _)
  | _, _, _, .lst (ts := ts) h a n, k, d, e => by
    rw [trD] at e
    cases q : trDs ts with
    | none => rw [q] at e; cases e
    | some ds =>
      rw [q] at e
      cases e
      exact .lst (.inl (k _ (by simp) _ h)) (TresOk.dn g a (fun x hx => k x (by simp [hx])) ds q)
  | _, _, _, .tup (ts := ts) h a, k, d, e => by
    rw [trD] at e
    cases q : trDs ts with
    | none => rw [q] at e; cases e
    | some ds =>
      rw [q] at e
      cases e
      exact .tup h (TresOk.dn g a k ds q)
  | _, _, _, .dic (ks := ks) (ts := ts) h c a n, k, d, e => by
    rw [trD] at e
    cases q : trDs ts with
    | none => rw [q] at e; cases e
    | some ds =>
      rw [q] at e
      cases e
      have hl : ks.length = ds.length := by rw [c.len, a.len1, trDs_len q]
      exact .dcu (k _ (by simp) _ h) (by rw [zip_fst hl]; exact c) (by rw [zip_snd hl]; exact TresOk.dn g a (fun x hx => k x (by simp [hx])) ds q)
  | _, _, _, .ins (fs := fs) (ts := ts) h1 h2 ne a n1 n2, k, d, e => by
    rw [trD] at e
    cases q : trDs ts with
    | none => rw [q] at e; cases e
    | some ds =>
      rw [q] at e
      cases e
      have hl : (fs.map (·.1)).length = ds.length := by
        have := a.len1
        rw [List.length_map] at this ⊢
        rw [this, trDs_len q]
      exact .ins (k _ (by simp) _ h1) (k _ (by simp) _ h2) (by rw [zip_fst hl]) (by rw [zip_snd hl]; exact TresOk.dn g a (fun x hx => k x (by simp [hx])) ds q)
theorem TresOk.dn {K : PySem.W.Frag} {G G' : Rg} {H : Hp} (g : RgLe G G') : ∀ {vs : List V} {fp : List Addr} {ts : List Tre}, TresOk K G H vs fp ts → (∀ a ∈ fp, ∀ o, H a = some o → G' a o) → ∀ ds, trDs ts = some ds → DnA K G' H vs ds
  | _, _, _, .nil, _, ds, e => by rw [trDs] at e; cases e; exact .nil
  | _, _, _, .cons (t := t) (ts := ts) h a n, k, ds, e => by
    rw [trDs] at e
    cases q : trD t with
    | none => rw [q] at e; cases e
    | some d =>
      rw [q] at e
      have e : (trDs ts).map (d :: ·) = some ds := e
      cases q2 : trDs ts with
      | none => rw [q2] at e; cases e
      | some es =>
        rw [q2] at e
        cases e
        exact .cons (TreOk.dn g h (fun x hx => k x (by simp [hx])) d q) (TresOk.dn g a (fun x hx => k x (by simp [hx])) es q2)
end
def mulT : Dk → List (PyData × List PyData) → Tre
  | .n, l => .dic .n (encK (l.map (·.1))) (.d .none :: l.flatMap fun z => [.lst (z.2.map .d), .d z.1])
  | t, l => .dic t (l.map (·.1)) (l.map fun z => .lst (z.2.map .d))
inductive Cl where
  | lst (ds : List PyData)
  | dic (t : Dk) (kvs : List (PyData × PyData))
  | feed (f : Fd)
  | tr (t : Tre)
  | mul (t : Dk) (l : List (PyData × List PyData))
def Cl.ok (K : PySem.W.Frag) (G : Rg) (H : Hp) (v : V) (fp : List Addr) : Cl → Prop
  | .lst ds => ∃ p vs, v = .ref p ∧ fp = [p] ∧ H p = some (.lst vs) ∧ DnA K G H vs ds
  | .dic t kvs => ∃ p o vs, v = .ref p ∧ fp = [p] ∧ H p = some o ∧ DcO t p o (kvs.map (·.1)) vs ∧ DnA K G H vs (kvs.map (·.2))
  | .feed f => ∃ d l, v = .ref d ∧ fp = [d, l] ∧ d ≠ l ∧ H d = some (.dK (fdK l f.2.1 f.2.2)) ∧ H l = some (.lst (f.1.map V.int))
  | .tr T => TreOk K G H v fp T ∧ ∃ p, v = .ref p ∧ (p ∈ fp ∨ ∃ xs, H p = some (.tup xs))
  | .mul t l => TreOk K G H v fp (mulT t l) ∧ ∃ p, v = .ref p ∧ (p ∈ fp ∨ ∃ xs, H p = some (.tup xs))
theorem Cl.mono {K : PySem.W.Frag} {G G' : Rg} {H H' : Hp} {v : V} {fp : List Addr} {c : Cl} (h : c.ok K G H v fp) (g : RgLe G G') (k : ∀ a ∈ fp, H' a = H a) (t : TupLe H H') : c.ok K G' H' v fp := by
  cases c with
  | lst ds =>
    obtain ⟨p, vs, rfl, rfl, h1, h2⟩ := h
    exact ⟨p, vs, rfl, rfl, by rw [k p (by simp)]; exact h1, h2.mono g t⟩
  | dic t' kvs =>
    obtain ⟨p, o, vs, rfl, rfl, h1, h2, h3⟩ := h
    exact ⟨p, o, vs, rfl, rfl, by rw [k p (by simp)]; exact h1, h2, h3.mono g t⟩
  | feed f =>
    obtain ⟨d, l, h1, h2, h3, h4, h5⟩ := h
    exact ⟨d, l, h1, h2, h3, by rw [k d (by simp [h2])]; exact h4, by rw [k l (by simp [h2])]; exact h5⟩
  | tr T =>
    obtain ⟨h1, p, h2, h3⟩ := h
    exact ⟨h1.mono g t k, p, h2, h3.imp id fun ⟨xs, z⟩ => ⟨xs, t _ _ z⟩⟩
  | mul T l =>
    obtain ⟨h1, p, h2, h3⟩ := h
    exact ⟨h1.mono g t k, p, h2, h3.imp id fun ⟨xs, z⟩ => ⟨xs, t _ _ z⟩⟩
theorem Cl.root {K : PySem.W.Frag} {G : Rg} {H : Hp} {p : Addr} {fp : List Addr} {c : Cl} (h : c.ok K G H (.ref p) fp) : p ∈ fp ∨ ∃ xs, H p = some (.tup xs) := by
  cases c with
  | lst ds =>
    obtain ⟨q, vs, h1, rfl, _⟩ := h
    cases h1; exact .inl (by simp)
  | dic t kvs =>
    obtain ⟨q, o, vs, h1, rfl, _⟩ := h
    cases h1; exact .inl (by simp)
  | feed f =>
    obtain ⟨q, l, h1, rfl, _⟩ := h
    cases h1; exact .inl (by simp)
  | tr T =>
    obtain ⟨_, q, h1, h2⟩ := h
    cases h1; exact h2
  | mul T l =>
    obtain ⟨_, q, h1, h2⟩ := h
    cases h1; exact h2
inductive Itm where
  | d (x : PyData)
  | r (k : Nat)
inductive ItsOk (K : PySem.W.Frag) (G : Rg) (H : Hp) (fp : List Addr) : List V → List Itm → Prop
  | nil : ItsOk K G H fp [] []
  | d {v : V} {x : PyData} {vs : List V} {nd : List Itm} : Dn K G H v x → ItsOk K G H fp vs nd → ItsOk K G H fp (v :: vs) (.d x :: nd)
  | r {k : Nat} {p : Addr} {vs : List V} {nd : List Itm} : fp[k]? = some p → ItsOk K G H fp vs nd → ItsOk K G H fp (.ref p :: vs) (.r k :: nd)
def PoolOk (K : PySem.W.Frag) (G : Rg) (H : Hp) (fp : List Addr) (ns : List (List Itm)) : Prop :=
  fp.length = ns.length ∧ fp.Nodup ∧ ∀ (k : Nat) (nd : List Itm), ns[k]? = some nd → ∃ p vs, fp[k]? = some p ∧ H p = some (.lst vs) ∧ ItsOk K G H fp vs nd
theorem ItsOk.mono {K : PySem.W.Frag} {G G' : Rg} {H H' : Hp} (g : RgLe G G') (t : TupLe H H') {fp : List Addr} : ∀ {vs : List V} {nd : List Itm}, ItsOk K G H fp vs nd → ItsOk K G' H' fp vs nd
  | _, _, .nil => .nil
  | _, _, .d h a => .d (h.mono g t) (ItsOk.mono g t a)
  | _, _, .r h a => .r h (ItsOk.mono g t a)
theorem PoolOk.mono {K : PySem.W.Frag} {G G' : Rg} {H H' : Hp} {fp : List Addr} {ns : List (List Itm)} (h : PoolOk K G H fp ns) (g : RgLe G G') (k : ∀ a ∈ fp, H' a = H a) (t : TupLe H H') : PoolOk K G' H' fp ns :=
  ⟨h.1, h.2.1, fun j nd e => by
    obtain ⟨p, vs, h1, h2, h3⟩ := h.2.2 j nd e
    exact ⟨p, vs, h1, by rw [k p (List.mem_of_getElem? h1)]; exact h2, h3.mono g t⟩⟩
inductive Sl where
  | un
  | dat (fr : Bool) (d : PyData)
  | own (c : Cl)
  | io (c : Cl)
  /-- a list of one's own that is walked: read, not changed -/
  | lent (c : Cl)
  /-- the list of number k of the pool at slot j -/
  | ref (j k : Nat)
  /-- a pool of lists that hold one another (at a slot that no name stands for) -/
  | pool (ns : List (List Itm))
  /-- a name for what stands at c in the tuple that the def was handed at slot i -/
  | al (i c : Nat)
def Sl.pl : Sl → Bool
  | .ref _ _ => true
  | .pool _ => true
  | _ => false
structure Exn where
  cls : Str
  flds : List (Str × PyData)
  st : List Sl
inductive R (α : Type) where
  | val (a : α)
  | exc (x : Exn)
  | bad
def R.bind {α β : Type} : R α → (α → R β) → R β
  | .val a, k => k a
  | .exc x, _ => .exc x
  | .bad, _ => .bad
def SlOk (K : PySem.W.Frag) (G : Gh) (H : Hp) (i : Nat) (ov : Option (Option V)) (fp : List Addr) : Sl → Prop
  | .un => fp = []
  | .dat fr d => fp = [] ∧ ∃ v, ov = some (some v) ∧ Dn K (rg G fr) H v d
  | .own c => ∃ v, ov = some (some v) ∧ (∀ p ∈ fp, G.H0 p = none) ∧ c.ok K (RgN G) H v fp
  | .io c => ∃ v, ov = some (some v) ∧ G.I i = some v ∧ c.ok K (RgN G) H v fp
  | .lent c => fp = [] ∧ ∃ p o, ov = some (some (.ref p)) ∧ G.I i = some (.ref p) ∧ H p = some o ∧ G.E p = some o ∧ (∀ xs, o ≠ .tup xs) ∧ c.ok K (RgN G) H (.ref p) [p]
  | .ref _ _ => fp = []
  | .pool ns => (∀ p ∈ fp, G.H0 p = none) ∧ PoolOk K (RgN G) H fp ns
  | .al i c => fp = [] ∧ ∃ q vs v, G.I i = some (.ref q) ∧ H q = some (.tup vs) ∧ vs[c]? = some v ∧ ov = some (some v)
theorem SlOk.mono {K : PySem.W.Frag} {G G' : Gh} {H H' : Hp} {i : Nat} {ov : Option (Option V)} {fp : List Addr} {s : Sl} (h : SlOk K G H i ov fp s) (e : Ext G H G' H') (k : ∀ a ∈ fp, H' a = H a) : SlOk K G' H' i ov fp s := by
  cases s with
  | un => exact h
  | dat fr d =>
    obtain ⟨h1, v, h2, h3⟩ := h
    exact ⟨h1, v, h2, e.dn h3⟩
  | own c =>
    obtain ⟨v, h2, h4, h3⟩ := h
    exact ⟨v, h2, fun p hp => by rw [e.h0]; exact h4 p hp, Cl.mono h3 e.n k e.t⟩
  | io c =>
    obtain ⟨v, h2, h4, h3⟩ := h
    exact ⟨v, h2, by rw [e.i]; exact h4, Cl.mono h3 e.n k e.t⟩
  | lent c =>
    obtain ⟨h1, p, o, h2, h3, h4, h5, h6, h7⟩ := h
    have h5' : G'.E p = some o := by rw [e.e]; exact h5
    have h4' : H' p = some o := (e.w.ex p o h5').1
    exact ⟨h1, p, o, h2, by rw [e.i]; exact h3, h4', h5', h6, Cl.mono h7 e.n (fun a ha => by
      have : a = p := by simpa using ha
      rw [this, h4, h4']) e.t⟩
  | ref j k => exact h
  | pool ns => exact ⟨fun p hp => by rw [e.h0]; exact h.1 p hp, h.2.mono e.n k e.t⟩
  | al i c =>
    obtain ⟨h1, q, vs, v, h2, h3, h4, h5⟩ := h
    exact ⟨h1, q, vs, v, by rw [e.i]; exact h2, e.t _ _ h3, h4, h5⟩
structure StaA (K : PySem.W.Frag) (G : Gh) (H : Hp) (σ : St) (Γ : List Sl) (A : Nat → List Addr) : Prop where
  w : Wf G H
  len : Γ.length = σ.length
  sl : ∀ i s, Γ[i]? = some s → SlOk K G H i σ[i]? (A i) s
  al : ∀ i p, p ∈ A i → H p ≠ none ∧ G.N p = none ∧ (p ∈ G.P ∨ G.H0 p = none)
  ae : ∀ i p, p ∈ A i → G.E p = none
  dj : ∀ i j p, p ∈ A i → p ∈ A j → i = j
  rf : ∀ (i j k : Nat) (ns : List (List Itm)), Γ[i]? = some (Sl.ref j k) → Γ[j]? = some (Sl.pool ns) → ∃ p, (A j)[k]? = some p ∧ σ[i]? = some (some (V.ref p))
theorem rf_set {Γ : List Sl} {σ σ' : St} {A A' : Nat → List Addr} {i : Nat} {s' : Sl} (rf : ∀ (i j k : Nat) (ns : List (List Itm)), Γ[i]? = some (Sl.ref j k) → Γ[j]? = some (Sl.pool ns) → ∃ p, (A j)[k]? = some p ∧ σ[i]? = some (some (V.ref p)))
    (hs : s'.pl = false) (hA : ∀ j, j ≠ i → A' j = A j) (hσ : ∀ j, j ≠ i → σ'[j]? = σ[j]?) : ∀ (a j k : Nat) (ns : List (List Itm)), (Γ.set i s')[a]? = some (Sl.ref j k) → (Γ.set i s')[j]? = some (Sl.pool ns) → ∃ p, (A' j)[k]? = some p ∧ σ'[a]? = some (some (V.ref p)) := fun a j k ns h1 h2 => by
  have key : ∀ (b : Nat) (x : Sl), x.pl = true → (Γ.set i s')[b]? = some x → b ≠ i ∧ Γ[b]? = some x := fun b x hx h => by
    by_cases e : b = i
    · subst e
      by_cases hl : b < Γ.length
      · rw [List.getElem?_set_self hl] at h
        cases h
        rw [hs] at hx; cases hx
      · rw [List.getElem?_eq_none (by simpa using hl)] at h; cases h
    · rw [List.getElem?_set_ne (Ne.symm e)] at h
      exact ⟨e, h⟩
  obtain ⟨n1, g1⟩ := key a _ rfl h1
  obtain ⟨n2, g2⟩ := key j _ rfl h2
  obtain ⟨p, q1, q2⟩ := rf a j k ns g1 g2
  exact ⟨p, by rw [hA j n2]; exact q1, by rw [hσ a n1]; exact q2⟩
def Sta (K : PySem.W.Frag) (G : Gh) (H : Hp) (σ : St) (Γ : List Sl) : Prop := ∃ A, StaA K G H σ Γ A
theorem Sta.w {K : PySem.W.Frag} {G : Gh} {H : Hp} {σ : St} {Γ : List Sl} (s : Sta K G H σ Γ) : Wf G H := s.elim fun _ a => a.w
structure Grow (G : Gh) (H : Hp) (N' H' : Hp) (fs : List Addr) : Prop where
  k : ∀ a o, H a = some o → a ∉ fs → H' a = some o
  al : ∀ a, a ∈ fs → H' a ≠ none
  t : TupLe H H'
  n : ∀ a o, G.N a = some o → N' a = some o
  n' : ∀ a o, N' a = some o → H' a = some o ∧ (G.N a = some o ∨ H a = none)
theorem Grow.wf {G : Gh} {H N' H' : Hp} {fs : List Addr} (g : Grow G H N' H' fs) (w : Wf G H) (hf : ∀ p ∈ fs, p ∈ G.P ∨ G.H0 p = none) (he : ∀ p ∈ fs, G.E p = none) : Wf ⟨G.H0, G.P, G.I, N', G.E⟩ H' := by
  have al : ∀ a, H a ≠ none → H' a ≠ none := fun a h => by
    by_cases hp : a ∈ fs
    · exact g.al a hp
    · cases q : H a with
      | none => exact absurd q h
      | some o => rw [g.k a o q hp]; simp
  refine ⟨fun a o h h2 => ?_, fun a o h => ?_, fun a h => al a (w.pal a h), w.p0, fun a o h => ?_, fun i p h => (w.iv i p h).imp id fun z => z.imp id fun ⟨xs, z⟩ => ⟨xs, g.t p xs z⟩⟩
  · refine g.k a o (w.keep a o h h2) fun hp => ?_
    rcases hf a hp with z | z
    · exact h2 z
    · rw [show G.H0 a = some o from h] at z; cases z
  · obtain ⟨h1, h2⟩ := g.n' a o h
    exact ⟨h1, trivial⟩
  · obtain ⟨h1, h2, h3⟩ := w.ex a o h
    refine ⟨g.k a o h1 fun hp => ?_, ?_, h3⟩
    · have h : G.E a = some o := h
      rw [he a hp] at h; cases h
    · show N' a = none
      cases q : N' a with
      | none => rfl
      | some u =>
        rcases (g.n' a u q).2 with z | z
        · rw [h2] at z; cases z
        · rw [h1] at z; cases z
theorem Wf.none0 {G : Gh} {H : Hp} (w : Wf G H) {a : Addr} (h2 : H a = none) : G.H0 a = none := by
  cases q : G.H0 a with
  | none => rfl
  | some u =>
    by_cases hp : a ∈ G.P
    · exact absurd h2 (w.pal a hp)
    · rw [w.keep a u q hp] at h2; cases h2
theorem Grow.ext {G : Gh} {H N' H' : Hp} {fs : List Addr} (g : Grow G H N' H' fs) (w : Wf G H) (hf : ∀ p ∈ fs, p ∈ G.P ∨ G.H0 p = none) (he : ∀ p ∈ fs, G.E p = none) : Ext G H ⟨G.H0, G.P, G.I, N', G.E⟩ H' :=
  ⟨rfl, rfl, rfl, rfl, g.n, fun a o h => (g.n' a o h).2.imp id fun z => w.none0 z, g.t, g.wf w hf he⟩
theorem Grow.at {G : Gh} {H N' H' : Hp} {fs : List Addr} (g : Grow G H N' H' fs) {a : Addr} (h : H a ≠ none) (hp : a ∉ fs) : H' a = H a := by
  cases q : H a with
  | none => exact absurd q h
  | some o => exact g.k a o q hp
theorem Sta.grow {K : PySem.W.Frag} {G : Gh} {H H' N' : Hp} {σ : St} {Γ : List Sl} (s : Sta K G H σ Γ) (g : Grow G H N' H' []) :
    Sta K ⟨G.H0, G.P, G.I, N', G.E⟩ H' σ Γ ∧ Ext G H ⟨G.H0, G.P, G.I, N', G.E⟩ H' := by
  obtain ⟨A, S⟩ := s
  have e := g.ext S.w (fun p hp => absurd hp (by simp)) (fun p hp => absurd hp (by simp))
  refine ⟨⟨A, e.w, S.len, fun i s h => (S.sl i s h).mono e fun a ha => g.at (S.al i a ha).1 (by simp), fun i p hp => ?_, S.ae, S.dj, S.rf⟩, e⟩
  obtain ⟨h1, h2, h3⟩ := S.al i p hp
  refine ⟨by rw [g.at h1 (by simp)]; exact h1, ?_, h3⟩
  show N' p = none
  cases q : N' p with
  | none => rfl
  | some o =>
    rcases (g.n' p o q).2 with z | z
    · rw [h2] at z; cases z
    · exact absurd z h1
theorem StaA.step {K : PySem.W.Frag} {G : Gh} {H H' N' : Hp} {σ σ' : St} {Γ : List Sl} {A : Nat → List Addr} {i : Nat} {s' : Sl} {fp' fs : List Addr} (S : StaA K G H σ Γ A) (g : Grow G H N' H' fs)
    (hfs : ∀ p ∈ fs, p ∈ A i) (hσ : ∀ j, j ≠ i → σ'[j]? = σ[j]?) (hl : σ'.length = σ.length) (sl' : i < Γ.length → SlOk K ⟨G.H0, G.P, G.I, N', G.E⟩ H' i σ'[i]? fp' s')
    (f : ∀ p ∈ fp', H' p ≠ none ∧ N' p = none ∧ (p ∈ A i ∨ H p = none)) (hpl : s'.pl = false := by first | rfl | (cases ‹Bool› <;> rfl)) :
    Sta K ⟨G.H0, G.P, G.I, N', G.E⟩ H' σ' (Γ.set i s') ∧ Ext G H ⟨G.H0, G.P, G.I, N', G.E⟩ H' := by
  have hf : ∀ p ∈ fs, p ∈ G.P ∨ G.H0 p = none := fun p hp => (S.al i p (hfs p hp)).2.2
  have he : ∀ p ∈ fs, G.E p = none := fun p hp => S.ae i p (hfs p hp)
  have e := g.ext S.w hf he
  have nf : ∀ j, j ≠ i → ∀ p, p ∈ A j → p ∉ fs := fun j hj p hp hq => hj (S.dj j i p hp (hfs p hq))
  refine ⟨⟨fun j => if j = i then fp' else A j, e.w, by rw [List.length_set, hl]; exact S.len, fun j s h => ?_, fun j p hp => ?_, fun j p hp => ?_, fun j k p hj hk => ?_, rf_set S.rf hpl (fun j hj => if_neg hj) hσ⟩, e⟩
  · by_cases hj : j = i
    · subst hj
      have hlt : j < Γ.length := by
        have := (List.getElem?_eq_some_iff.mp h).1
        simpa using this
      rw [List.getElem?_set_self hlt] at h
      cases h
      rw [if_pos rfl]
      exact sl' hlt
    · rw [List.getElem?_set_ne (Ne.symm hj)] at h
      rw [if_neg hj, hσ j hj]
      exact (S.sl j s h).mono e fun a ha => g.at (S.al j a ha).1 (nf j hj a ha)
  · by_cases hj : j = i
    · rw [if_pos hj] at hp
      obtain ⟨h1, h2, h3⟩ := f p hp
      refine ⟨h1, h2, ?_⟩
      rcases h3 with z | z
      · exact (S.al i p z).2.2
      · by_cases q : p ∈ G.P
        · exact .inl q
        · refine .inr ?_
          show G.H0 p = none
          cases r : G.H0 p with
          | none => rfl
          | some u => rw [S.w.keep p u r q] at z; cases z
    · rw [if_neg hj] at hp
      obtain ⟨h1, h2, h3⟩ := S.al j p hp
      refine ⟨by rw [g.at h1 (nf j hj p hp)]; exact h1, ?_, h3⟩
      show N' p = none
      cases q : N' p with
      | none => rfl
      | some o =>
        rcases (g.n' p o q).2 with z | z
        · rw [h2] at z; cases z
        · exact absurd z h1
  · show G.E p = none
    by_cases hj : j = i
    · rw [if_pos hj] at hp
      rcases (f p hp).2.2 with z | z
      · exact S.ae i p z
      · cases q : G.E p with
        | none => rfl
        | some u => rw [(S.w.ex p u q).1] at z; cases z
    · rw [if_neg hj] at hp
      exact S.ae j p hp
  · have key : ∀ j', j' ≠ i → p ∈ A j' → p ∈ fp' → False := fun j' hj' h1 h2 => by
      rcases (f p h2).2.2 with z | z
      · exact hj' (S.dj j' i p h1 z)
      · exact (S.al j' p h1).1 z
    by_cases hj' : j = i
    · by_cases hk' : k = i
      · rw [hj', hk']
      · rw [if_pos hj'] at hj
        rw [if_neg hk'] at hk
        exact (key k hk' hk hj).elim
    · by_cases hk' : k = i
      · rw [if_neg hj'] at hj
        rw [if_pos hk'] at hk
        exact (key j hj' hj hk).elim
      · rw [if_neg hj'] at hj
        rw [if_neg hk'] at hk
        exact S.dj j k p hj hk
theorem grow0 {G : Gh} {H : Hp} (w : Wf G H) : Grow G H G.N H [] := ⟨fun _ _ h _ => h, fun _ h => absurd h (by simp), TupLe.rf _, fun _ _ h => h, fun a o h => ⟨(w.new a o h).1, .inl h⟩⟩
theorem same_upd {H : Hp} {p : Addr} {o : HO} (h : H p = none) : Same H (upd H p o) := fun b x e => by
  rw [upd_ne (ne_of_none e h)]
  exact e
theorem tup_upd {H : Hp} {p : Addr} {o : HO} (h : H p = none) : TupLe H (upd H p o) := fun b x e => same_upd h _ _ e
theorem grow_new {G : Gh} {H : Hp} {p : Addr} {o : HO} (w : Wf G H) (h : H p = none) : Grow G H (upd G.N p o) (upd H p o) [] := by
  have hN : G.N p = none := by
    cases q : G.N p with
    | none => rfl
    | some u => rw [(w.new p u q).1] at h; cases h
  refine ⟨fun a u e _ => same_upd h a u e, fun _ h => absurd h (by simp), tup_upd h, fun a u e => same_upd hN a u e, fun a u e => ?_⟩
  by_cases ha : a = p
  · subst ha
    rw [upd_same] at e
    rw [upd_same]
    exact ⟨e, .inr h⟩
  · rw [upd_ne ha] at e
    rw [upd_ne ha]
    exact ⟨(w.new a u e).1, .inl e⟩
theorem grow_mut {G : Gh} {H : Hp} {p : Addr} {o u : HO} (w : Wf G H) (h : H p = some u) (hN : G.N p = none) (ht : ∀ xs, u ≠ .tup xs) (hz : ∀ x y, u ≠ .frz x y) : Grow G H G.N (upd H p o) [p] := by
  refine ⟨fun a x e hp => by rw [upd_ne (by simpa using hp)]; exact e, fun a ha => ?_, fun a xs e => ?_, fun _ _ e => e, fun a x e => ⟨?_, .inl e⟩⟩
  · have : a = p := by simpa using ha
    rw [this, upd_same]; simp
  · by_cases q : a = p
    · subst q; rw [h] at e; exact absurd (Option.some.inj e) (ht _)
    · rw [upd_ne q]; exact e
  · rw [upd_ne (fun q => by rw [q, hN] at e; cases e)]
    exact (w.new a x e).1
theorem set_at {α : Type} {l : List α} {i : Nat} {x : α} (h : i < l.length) : (l.set i x)[i]? = some x := List.getElem?_set_self h
theorem Wf.fresh {G : Gh} {H : Hp} {p : Addr} (w : Wf G H) (hp : H p = none) : G.N p = none ∧ G.H0 p = none ∧ p ∉ G.P := by
  have h3 : p ∉ G.P := fun z => w.pal p z hp
  refine ⟨?_, ?_, h3⟩
  · cases q : G.N p with
    | none => rfl
    | some u => rw [(w.new p u q).1] at hp; cases hp
  · cases q : G.H0 p with
    | none => rfl
    | some u => rw [w.keep p u q h3] at hp; cases hp
theorem Sta.put {K : PySem.W.Frag} {G : Gh} {H : Hp} {σ : St} {Γ : List Sl} {fr : Bool} {d : PyData} {v : V} (s : Sta K G H σ Γ) (i : Nat) (h : Dn K (rg G fr) H v d) :
    Sta K G H (σ.set i (some v)) (Γ.set i (.dat fr d)) := by
  obtain ⟨A, S⟩ := s
  refine (S.step (i := i) (fp' := []) (s' := .dat fr d) (σ' := σ.set i (some v)) (grow0 S.w) (fun p hp => absurd hp (by simp)) (fun j hj => List.getElem?_set_ne (Ne.symm hj)) (List.length_set ..) (fun hlt => ⟨rfl, v, ?_, h⟩) (fun p hp => absurd hp (by simp))).1
  exact set_at (by rw [← S.len]; exact hlt)
theorem Sta.forget {K : PySem.W.Frag} {G : Gh} {H : Hp} {σ : St} {Γ : List Sl} (s : Sta K G H σ Γ) (i : Nat) : Sta K G H σ (Γ.set i .un) := by
  obtain ⟨A, S⟩ := s
  exact (S.step (i := i) (fp' := []) (s' := .un) (σ' := σ) (grow0 S.w) (fun p hp => absurd hp (by simp)) (fun j hj => rfl) rfl (fun hlt => rfl) (fun p hp => absurd hp (by simp))).1
theorem Sta.freeze {K : PySem.W.Frag} {G : Gh} {H : Hp} {σ : St} {Γ : List Sl} {ds : List PyData} (s : Sta K G H σ Γ) (i : Nat) (hi : Γ[i]? = some (.own (.lst ds))) :
    ∃ G', Sta K G' H σ (Γ.set i (.dat true (.list ds))) ∧ Ext G H G' H := by
  obtain ⟨A, S⟩ := s
  obtain ⟨v, h1, h0, p, vs, rfl, hfp, hp, hd⟩ := S.sl i _ hi
  have hpA : p ∈ A i := by rw [hfp]; simp
  have hN : G.N p = none := (S.al i p hpA).2.1
  have h00 : G.H0 p = none := h0 p hpA
  have n1 : ∀ a o, G.N a = some o → upd G.N p (.lst vs) a = some o := fun a o e => same_upd hN a o e
  have hE : ∀ a o, G.E a = some o → upd G.N p (.lst vs) a = none := fun a o ha => by
    have z : a ≠ p := fun z => by
      have q := S.ae i p hpA
      rw [z, q] at ha
      cases ha
    rw [upd_ne z]
    exact (S.w.ex a o ha).2.1
  have e : Ext G H ⟨G.H0, G.P, G.I, upd G.N p (.lst vs), G.E⟩ H := by
    refine ⟨rfl, rfl, rfl, rfl, n1, fun a o ha => ?_, TupLe.rf _, S.w.keep, fun a o ha => ?_, S.w.pal, S.w.p0, fun a o ha => ⟨(S.w.ex a o ha).1, hE a o ha, (S.w.ex a o ha).2.2⟩, S.w.iv⟩
    · have ha : upd G.N p (.lst vs) a = some o := ha
      by_cases q : a = p
      · subst q; exact .inr h00
      · rw [upd_ne q] at ha; exact .inl ha
    have ha : upd G.N p (.lst vs) a = some o := ha
    by_cases q : a = p
    · subst q
      rw [upd_same] at ha
      cases ha
      exact ⟨hp, trivial⟩
    · rw [upd_ne q] at ha
      exact S.w.new a o ha
  refine ⟨_, ⟨fun j => if j = i then [] else A j, e.w, by rw [List.length_set]; exact S.len, fun j s h => ?_, fun j q hq => ?_, fun j q hq => ?_, fun j k q hj hk => ?_, rf_set S.rf rfl (fun j hj => if_neg hj) (fun _ _ => rfl)⟩, e⟩
  · by_cases hj : j = i
    · subst hj
      rw [List.getElem?_set_self (List.getElem?_eq_some_iff.mp hi).1] at h
      cases h
      rw [if_pos rfl]
      exact ⟨rfl, .ref p, h1, .lst (.inl upd_same) (hd.mono n1 (TupLe.rf _))⟩
    · rw [List.getElem?_set_ne (Ne.symm hj)] at h
      rw [if_neg hj]
      exact (S.sl j s h).mono e fun a ha => rfl
  · by_cases hj : j = i
    · rw [if_pos hj] at hq; cases hq
    · rw [if_neg hj] at hq
      obtain ⟨h2, h3, h4⟩ := S.al j q hq
      refine ⟨h2, ?_, h4⟩
      show upd G.N p (.lst vs) q = none
      rw [upd_ne (fun z => hj (S.dj j i q hq (by rw [z]; exact hpA)))]
      exact h3
  · by_cases hj : j = i
    · rw [if_pos hj] at hq; cases hq
    · rw [if_neg hj] at hq
      exact S.ae j q hq
  · by_cases hj' : j = i
    · rw [if_pos hj'] at hj; cases hj
    · by_cases hk' : k = i
      · rw [if_pos hk'] at hk; cases hk
      · rw [if_neg hj'] at hj
        rw [if_neg hk'] at hk
        exact S.dj j k q hj hk
theorem Sta.lockDic {K : PySem.W.Frag} {G : Gh} {H : Hp} {σ : St} {Γ : List Sl} {t : Dk} {kvs : List (PyData × PyData)} (s : Sta K G H σ Γ) (i : Nat) (hi : Γ[i]? = some (.own (.dic t kvs))) :
    ∃ p ob, H p = some ob ∧ Mut (some ob) ∧ ∀ od, ∃ G', Sta K G' (upd H p (.frz od ob)) σ (Γ.set i (.dat true (.dict kvs))) ∧ Ext G H G' (upd H p (.frz od ob)) := by
  obtain ⟨A, S⟩ := s
  obtain ⟨v, h1, h0, p, ob, vs, rfl, hfp, hp, hk, hd⟩ := S.sl i _ hi
  have hpA : p ∈ A i := by rw [hfp]; simp
  have hmu : Mut (some ob) := by
    cases t with
    | k => obtain ⟨ks, rfl, _⟩ := hk; trivial
    | t => obtain ⟨ks, rfl, _⟩ := hk; trivial
    | n => obtain ⟨_, _, rfl, _⟩ := hk; trivial
  have hnt : ∀ xs, ob ≠ .tup xs := fun xs z => by rw [z] at hmu; exact hmu
  refine ⟨p, ob, hp, hmu, fun od => ?_⟩
  have hN : G.N p = none := (S.al i p hpA).2.1
  have h00 : G.H0 p = none := h0 p hpA
  have n1 : ∀ a o, G.N a = some o → upd G.N p (.frz od ob) a = some o := fun a o e => same_upd hN a o e
  have hE : ∀ a o, G.E a = some o → upd G.N p (.frz od ob) a = none := fun a o ha => by
    have z : a ≠ p := fun z => by
      have q := S.ae i p hpA
      rw [z, q] at ha
      cases ha
    rw [upd_ne z]
    exact (S.w.ex a o ha).2.1
  have ht : TupLe H (upd H p (.frz od ob)) := fun a xs h => by
    rw [upd_ne (fun z => by rw [z, hp] at h; cases h; exact hnt _ rfl)]; exact h
  have hal : ∀ a, H a ≠ none → upd H p (.frz od ob) a ≠ none := fun a h => by
    by_cases q : a = p
    · subst q; rw [upd_same]; exact fun z => nomatch z
    · rw [upd_ne q]; exact h
  have e : Ext G H ⟨G.H0, G.P, G.I, upd G.N p (.frz od ob), G.E⟩ (upd H p (.frz od ob)) := by
    refine ⟨rfl, rfl, rfl, rfl, n1, fun a o ha => ?_, ht, fun a o ha hb => ?_, fun a o ha => ?_, fun a ha => hal a (S.w.pal a ha), S.w.p0, fun a o ha => ⟨by rw [upd_ne (fun z => by rw [z] at ha; rw [S.ae i p hpA] at ha; cases ha)]; exact (S.w.ex a o ha).1, hE a o ha, (S.w.ex a o ha).2.2⟩, fun i q h => (S.w.iv i q h).imp id fun z => z.imp id fun ⟨xs, z⟩ => ⟨xs, ht q xs z⟩⟩
    · have ha : upd G.N p (.frz od ob) a = some o := ha
      by_cases q : a = p
      · subst q; exact .inr h00
      · rw [upd_ne q] at ha; exact .inl ha
    · rw [upd_ne (fun z => by rw [z, h00] at ha; cases ha)]; exact S.w.keep a o ha hb
    have ha : upd G.N p (.frz od ob) a = some o := ha
    by_cases q : a = p
    · subst q
      rw [upd_same] at ha
      cases ha
      exact ⟨upd_same, trivial⟩
    · rw [upd_ne q] at ha
      rw [upd_ne q]
      exact S.w.new a o ha
  refine ⟨_, ⟨fun j => if j = i then [] else A j, e.w, by rw [List.length_set]; exact S.len, fun j s h => ?_, fun j q hq => ?_, fun j q hq => ?_, fun j k q hj hk => ?_, rf_set S.rf rfl (fun j hj => if_neg hj) (fun _ _ => rfl)⟩, e⟩
  · by_cases hj : j = i
    · subst hj
      rw [List.getElem?_set_self (List.getElem?_eq_some_iff.mp hi).1] at h
      cases h
      rw [if_pos rfl]
      exact ⟨rfl, .ref p, h1, .dct ⟨od, upd_same⟩ hk (hd.mono n1 ht)⟩
    · rw [List.getElem?_set_ne (Ne.symm hj)] at h
      rw [if_neg hj]
      exact (S.sl j s h).mono e fun a ha => upd_ne fun z => hj (S.dj j i p (by rw [← z]; exact ha) hpA)
  · by_cases hj : j = i
    · rw [if_pos hj] at hq; cases hq
    · rw [if_neg hj] at hq
      obtain ⟨h2, h3, h4⟩ := S.al j q hq
      refine ⟨hal q h2, ?_, h4⟩
      show upd G.N p (.frz od ob) q = none
      rw [upd_ne (fun z => hj (S.dj j i q hq (by rw [z]; exact hpA)))]
      exact h3
  · by_cases hj : j = i
    · rw [if_pos hj] at hq; cases hq
    · rw [if_neg hj] at hq
      exact S.ae j q hq
  · by_cases hj' : j = i
    · rw [if_pos hj'] at hj; cases hj
    · by_cases hk' : k = i
      · rw [if_pos hk'] at hk; cases hk
      · rw [if_neg hj'] at hj
        rw [if_neg hk'] at hk
        exact S.dj j k q hj hk
theorem Sta.change {K : PySem.W.Frag} {G : Gh} {H : Hp} {σ : St} {Γ : List Sl} {ds : List PyData} (s : Sta K G H σ Γ) (i : Nat) (hi : Γ[i]? = some (.own (.lst ds))) :
    ∃ p vs, σ[i]? = some (some (.ref p)) ∧ H p = some (.lst vs) ∧ DnA K (rg G true) H vs ds ∧
      ∀ vs' ds', DnA K (rg G true) H vs' ds' → Sta K G (upd H p (.lst vs')) σ (Γ.set i (.own (.lst ds'))) ∧ Ext G H G (upd H p (.lst vs')) := by
  obtain ⟨A, S⟩ := s
  obtain ⟨v, h1, h0, p, vs, rfl, hfp, hp, hd⟩ := S.sl i _ hi
  have hpA : p ∈ A i := by rw [hfp]; simp
  have hN : G.N p = none := (S.al i p hpA).2.1
  refine ⟨p, vs, h1, hp, hd, fun vs' ds' hd' => ?_⟩
  have g : Grow G H G.N (upd H p (.lst vs')) [p] := grow_mut S.w hp hN (fun xs z => by cases z) (fun x y z => by cases z)
  refine S.step (i := i) (fp' := [p]) (s' := .own (.lst ds')) (σ' := σ) g (fun q hq => ?_) (fun j hj => rfl) rfl (fun hlt => ⟨.ref p, h1, fun q hq => ?_, p, vs', rfl, rfl, upd_same, hd'.mono (fun _ _ z => z) g.t⟩) (fun q hq => ?_)
  · have : q = p := by simpa using hq
    rw [this]; exact hpA
  · have : q = p := by simpa using hq
    rw [this]; exact h0 p hpA
  · have : q = p := by simpa using hq
    rw [this]
    exact ⟨by rw [upd_same]; simp, hN, .inl hpA⟩
theorem Sta.changeIo {K : PySem.W.Frag} {G : Gh} {H : Hp} {σ : St} {Γ : List Sl} {ds : List PyData} (s : Sta K G H σ Γ) (i : Nat) (hi : Γ[i]? = some (.io (.lst ds))) :
    ∃ p vs, σ[i]? = some (some (.ref p)) ∧ H p = some (.lst vs) ∧ DnA K (rg G true) H vs ds ∧
      ∀ vs' ds', DnA K (rg G true) H vs' ds' → Sta K G (upd H p (.lst vs')) σ (Γ.set i (.io (.lst ds'))) ∧ Ext G H G (upd H p (.lst vs')) := by
  obtain ⟨A, S⟩ := s
  obtain ⟨v, h1, h0, p, vs, rfl, hfp, hp, hd⟩ := S.sl i _ hi
  have hpA : p ∈ A i := by rw [hfp]; simp
  have hN : G.N p = none := (S.al i p hpA).2.1
  refine ⟨p, vs, h1, hp, hd, fun vs' ds' hd' => ?_⟩
  have g : Grow G H G.N (upd H p (.lst vs')) [p] := grow_mut S.w hp hN (fun xs z => by cases z) (fun x y z => by cases z)
  refine S.step (i := i) (fp' := [p]) (s' := .io (.lst ds')) (σ' := σ) g (fun q hq => ?_) (fun j hj => rfl) rfl (fun hlt => ⟨.ref p, h1, h0, p, vs', rfl, rfl, upd_same, hd'.mono (fun _ _ z => z) g.t⟩) (fun q hq => ?_)
  · have : q = p := by simpa using hq
    rw [this]; exact hpA
  · have : q = p := by simpa using hq
    rw [this]
    exact ⟨by rw [upd_same]; simp, hN, .inl hpA⟩
theorem Sta.pin {K : PySem.W.Frag} {G : Gh} {H : Hp} {σ : St} {Γ : List Sl} {D : Addr} {o : HO} (S : Sta K G H σ Γ) (hD : H D = none) : Sta K ⟨G.H0, G.P, G.I, G.N, upd G.E D o⟩ (upd H D o) σ Γ ∧ TupLe H (upd H D o) := by
  obtain ⟨A, S⟩ := S
  obtain ⟨f1, f2, f3⟩ := S.w.fresh hD
  have t := tup_upd (o := o) hD
  have nA : ∀ i, D ∉ A i := fun i h => (S.al i D h).1 hD
  have w : Wf ⟨G.H0, G.P, G.I, G.N, upd G.E D o⟩ (upd H D o) := by
    refine ⟨fun a u h h2 => same_upd hD _ _ (S.w.keep a u h h2), fun a u h => ⟨same_upd hD _ _ (S.w.new a u h).1, (S.w.new a u h).2⟩, fun a h => ?_, S.w.p0, fun a u h => ?_, fun i q h => (S.w.iv i q h).imp id fun z => z.imp (fun z => ?_) fun ⟨xs, z⟩ => ⟨xs, t q xs z⟩⟩
    rotate_left 2
    · by_cases e : q = D
      · show upd G.E D o q ≠ none
        rw [e, upd_same]; simp
      · show upd G.E D o q ≠ none
        rw [upd_ne e]; exact z
    · rw [upd_ne (show a ≠ D from fun z => f3 (z ▸ h))]
      exact S.w.pal a h
    · by_cases q : a = D
      · subst q
        have h : upd G.E a o a = some u := h
        rw [upd_same] at h ⊢
        exact ⟨h, f1, f2, f3⟩
      · have h : upd G.E D o a = some u := h
        rw [upd_ne q] at h ⊢
        exact S.w.ex a u h
  refine ⟨⟨A, w, S.len, fun i s h => ?_, fun i p h => ⟨?_, (S.al i p h).2⟩, fun i p h => ?_, S.dj, S.rf⟩, t⟩
  · have q := S.sl i s h
    cases s with
    | un => exact q
    | dat fr d =>
      obtain ⟨q1, v, q2, q3⟩ := q
      exact ⟨q1, v, q2, q3.mono (fun a o z => by cases fr <;> exact z) t⟩
    | own c =>
      obtain ⟨v, q2, q4, q3⟩ := q
      exact ⟨v, q2, q4, Cl.mono q3 (fun a o z => z) (fun a ha => upd_ne (fun z => nA i (z ▸ ha))) t⟩
    | io c =>
      obtain ⟨v, q2, q4, q3⟩ := q
      exact ⟨v, q2, q4, Cl.mono q3 (fun a o z => z) (fun a ha => upd_ne (fun z => nA i (z ▸ ha))) t⟩
    | lent c =>
      obtain ⟨q1, p, u, q2, q3, q4, q5, q6, q7⟩ := q
      have ne : p ≠ D := fun z => by rw [z, hD] at q4; cases q4
      exact ⟨q1, p, u, q2, q3, by rw [upd_ne ne]; exact q4, by show upd G.E D o p = _; rw [upd_ne ne]; exact q5, q6, Cl.mono q7 (fun a o z => z) (fun a ha => by
        have : a = p := by simpa using ha
        rw [this, upd_ne ne]) t⟩
    | ref _ _ => exact q
    | pool ns => exact ⟨q.1, q.2.mono (fun a o z => z) (fun a ha => upd_ne (fun z => nA i (z ▸ ha))) t⟩
    | al _ _ =>
      obtain ⟨h1, q', vs, v, h2, h3, h4, h5⟩ := q
      exact ⟨h1, q', vs, v, h2, t _ _ h3, h4, h5⟩
  · rw [upd_ne (show p ≠ D from fun z => nA i (z ▸ h))]
    exact (S.al i p h).1
  · show upd G.E D o p = none
    rw [upd_ne (show p ≠ D from fun z => nA i (z ▸ h))]
    exact S.ae i p h
def del (H : Hp) (D : Addr) : Hp := fun b => if b = D then none else H b
theorem del_ne {H : Hp} {D b : Addr} (h : b ≠ D) : PD.del H D b = H b := by unfold PD.del; rw [if_neg h]
theorem del_same {H : Hp} {D : Addr} : PD.del H D D = none := by unfold PD.del; rw [if_pos rfl]
theorem del_upd {H : Hp} {D : Addr} {o : HO} (h : H D = some o) : upd (PD.del H D) D o = H := by
  funext b
  by_cases q : b = D
  · subst q; rw [upd_same, h]
  · rw [upd_ne q, del_ne q]
theorem Sta.unpin {K : PySem.W.Frag} {G : Gh} {H : Hp} {σ : St} {Γ : List Sl} {D : Addr} {o : HO} {E0 : Hp} (S : Sta K G H σ Γ) (hE : G.E = upd E0 D o) (h0 : E0 D = none) (ho : ∀ xs, o ≠ .tup xs) (hz : ∀ x y, o ≠ .frz x y) (hI : ∀ i, G.I i ≠ some (.ref D)) : Sta K ⟨G.H0, G.P, G.I, G.N, E0⟩ (PD.del H D) σ Γ ∧ H D = some o ∧ TupLe H (PD.del H D) := by
  obtain ⟨A, S⟩ := S
  have eD : G.E D = some o := by rw [hE, upd_same]
  obtain ⟨g1, g2, g3, g4⟩ := S.w.ex D o eD
  have nA : ∀ i, D ∉ A i := fun i h => by
    have := S.ae i D h
    rw [eD] at this; cases this
  have t : TupLe H (PD.del H D) := fun a xs h => by
    rw [del_ne (fun z => by rw [z, g1] at h; exact ho xs (Option.some.inj h))]
    exact h
  have nD : ∀ a u, G.N a = some u → a ≠ D := fun a u h z => by rw [z, g2] at h; cases h
  have w : Wf ⟨G.H0, G.P, G.I, G.N, E0⟩ (PD.del H D) := by
    refine ⟨fun a u h h2 => ?_, fun a u h => ?_, fun a h => ?_, S.w.p0, fun a u h => ?_, fun i q h => (S.w.iv i q h).imp id fun z => z.imp (fun z => ?_) fun ⟨xs, z⟩ => ⟨xs, t q xs z⟩⟩
    rotate_right
    · have ne : q ≠ D := fun e => hI i (e ▸ h)
      show E0 q ≠ none
      rw [hE, upd_ne ne] at z
      exact z
    · rw [del_ne (fun z => by rw [z] at h; rw [show G.H0 D = some u from h] at g3; cases g3)]
      exact S.w.keep a u h h2
    · rw [del_ne (nD a u h)]
      exact S.w.new a u h
    · rw [del_ne (show a ≠ D from fun z => g4 (z ▸ h))]
      exact S.w.pal a h
    · have h : E0 a = some u := h
      have q : a ≠ D := fun z => by rw [z, h0] at h; cases h
      rw [del_ne q]
      exact S.w.ex a u (by rw [hE, upd_ne q]; exact h)
  refine ⟨⟨A, w, S.len, fun i s h => ?_, fun i p h => ⟨?_, (S.al i p h).2⟩, fun i p h => ?_, S.dj, S.rf⟩, g1, t⟩
  · have q := S.sl i s h
    cases s with
    | un => exact q
    | dat fr d =>
      obtain ⟨q1, v, q2, q3⟩ := q
      exact ⟨q1, v, q2, q3.mono (fun a o z => by cases fr <;> exact z) t⟩
    | own c =>
      obtain ⟨v, q2, q4, q3⟩ := q
      exact ⟨v, q2, q4, Cl.mono q3 (fun a o z => z) (fun a ha => del_ne (fun z => nA i (z ▸ ha))) t⟩
    | io c =>
      obtain ⟨v, q2, q4, q3⟩ := q
      exact ⟨v, q2, q4, Cl.mono q3 (fun a o z => z) (fun a ha => del_ne (fun z => nA i (z ▸ ha))) t⟩
    | lent c =>
      obtain ⟨q1, p, u, q2, q3, q4, q5, q6, q7⟩ := q
      have ne : p ≠ D := fun z => hI i (by rw [← z]; exact q3)
      exact ⟨q1, p, u, q2, q3, by rw [del_ne ne]; exact q4, by show E0 p = _; rw [hE, upd_ne ne] at q5; exact q5, q6, Cl.mono q7 (fun a o z => z) (fun a ha => by
        have : a = p := by simpa using ha
        rw [this, del_ne ne]) t⟩
    | ref _ _ => exact q
    | pool ns => exact ⟨q.1, q.2.mono (fun a o z => z) (fun a ha => del_ne (fun z => nA i (z ▸ ha))) t⟩
    | al _ _ =>
      obtain ⟨h1, q', vs, v, h2, h3, h4, h5⟩ := q
      exact ⟨h1, q', vs, v, h2, t _ _ h3, h4, h5⟩
  · rw [del_ne (show p ≠ D from fun z => nA i (z ▸ h))]
    exact (S.al i p h).1
  · show E0 p = none
    have := S.ae i p h
    rw [hE, upd_ne (show p ≠ D from fun z => nA i (z ▸ h))] at this
    exact this
theorem Sta.blank {K : PySem.W.Frag} {G : Gh} {H : Hp} {σ : St} {Γ : List Sl} (s : Sta K G H σ Γ) (i : Nat) (o : Option V) : Sta K G H (σ.set i o) (Γ.set i .un) := by
  obtain ⟨A, S⟩ := s
  exact (S.step (i := i) (fp' := []) (s' := .un) (σ' := σ.set i o) (grow0 S.w) (fun p hp => absurd hp (by simp)) (fun j hj => List.getElem?_set_ne (Ne.symm hj)) (List.length_set ..) (fun hlt => rfl) (fun p hp => absurd hp (by simp))).1
theorem Sta.swap {K : PySem.W.Frag} {G : Gh} {H : Hp} {σ σ' : St} {Γ : List Sl} (s : Sta K G H σ Γ) (hl : σ'.length = σ.length) (h : ∀ i : Nat, σ'[i]? = σ[i]? ∨ Γ[i]? = some Sl.un) : Sta K G H σ' Γ := by
  obtain ⟨A, S⟩ := s
  refine ⟨A, S.w, by rw [hl]; exact S.len, fun i sl e => ?_, S.al, S.ae, S.dj, fun i j k ns e1 e2 => ?_⟩
  rotate_left
  · obtain ⟨p, q1, q2⟩ := S.rf i j k ns e1 e2
    refine ⟨p, q1, ?_⟩
    rcases h i with q | q
    · rw [q]; exact q2
    · rw [q] at e1; cases e1
  rcases h i with q | q
  · rw [q]; exact S.sl i sl e
  · rw [q] at e
    cases e
    exact S.sl i .un q
end PD
set_option Elab.async false
set_option linter.all false
set_option maxRecDepth 100000
set_option maxHeartbeats 4000000
namespace PD
open PySem L2
inductive AV where
  | d (fr : Bool) (d : PyData)
  | s (i : Nat)
def AVok (K : PySem.W.Frag) (G : Gh) (H : Hp) (σ : St) (v : V) : AV → Prop
  | .d fr d => Dn K (rg G fr) H v d
  | .s i => σ[i]? = some (some v)
theorem AVok.ext {K : PySem.W.Frag} {G G' : Gh} {H H' : Hp} {σ : St} {v : V} {a : AV} (h : AVok K G H σ v a) (e : Ext G H G' H') : AVok K G' H' σ v a := by
  cases a with
  | d fr d => exact e.dn h
  | s i => exact h
def FldsOk (K : PySem.W.Frag) (G : Rg) (H : Hp) (fs : List (Str × V)) (flds : List (Str × PyData)) : Prop := fs.map (·.1) = flds.map (·.1) ∧ DnA K G H (fs.map (·.2)) (flds.map (·.2))
def XdOk (K : PySem.W.Frag) (G : Rg) (H : Hp) (d : Option Addr) (flds : List (Str × PyData)) : Prop :=
  (∃ a fs, d = some a ∧ G a (.xd fs) ∧ FldsOk K G H fs flds) ∨ (d = none ∧ flds = [])
def XW (X : Cx) (W : WX) (G : Gh) (H : Hp) (_ : St) (x : Exn) : Prop :=
  ∀ G' H' σ' C d, Ext G H G' H' → Sta X.K G' H' σ' x.st → X.mg x.cls = some (.ref C) → XdOk X.K (rg G' true) H' d x.flds → W (.ref C) d σ' H'
theorem XW.ext {X : Cx} {W : WX} {G G' : Gh} {H H' : Hp} {σ : St} {x : Exn} (h : XW X W G H σ x) (e : Ext G H G' H') : XW X W G' H' σ x := fun G2 H2 σ2 C d e2 => h G2 H2 σ2 C d (e.tr e2)
def Pst (X : Cx) (W : WX) (G : Gh) (H : Hp) (σ : St) {τ : Type} (m : R τ) (P : τ → Gh → Hp → Prop) : Prop :=
  match m with
  | .bad => False
  | .exc x => XW X W G H σ x
  | .val r => ∀ G' H', Ext G H G' H' → P r G' H'
theorem Pst.ext {X : Cx} {W : WX} {G G' : Gh} {H H' : Hp} {σ : St} {τ : Type} {m : R τ} {P : τ → Gh → Hp → Prop} (h : Pst X W G H σ m P) (e : Ext G H G' H') : Pst X W G' H' σ m P := by
  cases m with
  | bad => exact h
  | exc x => exact XW.ext (σ := σ) h e
  | val r => exact fun G2 H2 e2 => h G2 H2 (e.tr e2)
theorem Pst.imp {X : Cx} {W : WX} {G : Gh} {H : Hp} {σ : St} {τ : Type} {m : R τ} {P P' : τ → Gh → Hp → Prop} (h : Pst X W G H σ m P) (k : ∀ r G' H', Ext G H G' H' → P r G' H' → P' r G' H') : Pst X W G H σ m P' := by
  cases m with
  | bad => exact h
  | exc x => exact h
  | val r => exact fun G2 H2 e2 => k r G2 H2 e2 (h G2 H2 e2)
theorem Pst.impG {X : Cx} {W : WX} {G : Gh} {H : Hp} {σ : St} {τ : Type} {m : R τ} {P P' : τ → Gh → Hp → Prop} (h : Pst X W G H σ m P) (k : ∀ r G' H', Ext G H G' H' → (∀ G2 H2, Ext G' H' G2 H2 → P r G2 H2) → P' r G' H') : Pst X W G H σ m P' := by
  cases m with
  | bad => exact h
  | exc x => exact h
  | val r => exact fun G2 H2 e2 => k r G2 H2 e2 fun G3 H3 e3 => h G3 H3 (e2.tr e3)
theorem Pst.bind {X : Cx} {W : WX} {G : Gh} {H : Hp} {σ : St} {τ ρ : Type} {m : R τ} {k : τ → R ρ} {P : ρ → Gh → Hp → Prop} (h : Pst X W G H σ (m.bind k) P) : Pst X W G H σ m (fun r G' H' => Pst X W G' H' σ (k r) P) := by
  cases m with
  | bad => exact h
  | exc x => exact h
  | val r => exact fun G2 H2 e2 => Pst.ext h e2
section
variable (X : Cx) (W : WX) (Γ : List Sl)
def rdE {τ : Type} (m : R τ) (av : τ → AV) (Γ' : τ → List Sl) : TE := fun σ H Q => ∃ G, Sta X.K G H σ Γ ∧ Pst X W G H σ m fun r G' H' => ∀ v, Sta X.K G' H' σ (Γ' r) → AVok X.K G' H' σ v (av r) → Q v H'
def rdT {τ : Type} (m : R τ) (b : τ → Bool) (Γ' : τ → List Sl) : TT := fun σ H Q => ∃ G, Sta X.K G H σ Γ ∧ Pst X W G H σ m fun r G' H' => Sta X.K G' H' σ (Γ' r) → Q (b r) H'
def rdF {τ : Type} (m : R τ) (ds : τ → List PyData) (Γ' : τ → List Sl) : TE := fun σ H Q => ∃ G, Sta X.K G H σ Γ ∧ Pst X W G H σ m fun r G' H' => ∀ p vs, Sta X.K G' H' σ (Γ' r) → H' p = none → DnA X.K (rg G' true) H' vs (ds r) → Q (.ref p) (upd H' p (.lst vs))
inductive AVs (K : PySem.W.Frag) (G : Gh) (H : Hp) (σ : St) : List V → List AV → Prop
  | nil : AVs K G H σ [] []
  | cons {v : V} {vs : List V} {a : AV} {as : List AV} : AVok K G H σ v a → AVs K G H σ vs as → AVs K G H σ (v :: vs) (a :: as)
def rdA {τ : Type} (m : R τ) (as : τ → List AV) (Γ' : τ → List Sl) : TA := fun σ H Q => ∃ G, Sta X.K G H σ Γ ∧ Pst X W G H σ m fun r G' H' => ∀ vs, Sta X.K G' H' σ (Γ' r) → AVs X.K G' H' σ vs (as r) → Q vs H'
def Ev (e : Expr) {τ : Type} (m : R τ) (av : τ → AV) (Γ' : τ → List Sl) : Prop := PE X e (rdE X W Γ m av Γ')
def EvT (e : Expr) {τ : Type} (m : R τ) (b : τ → Bool) (Γ' : τ → List Sl) : Prop := PT X e (rdT X W Γ m b Γ')
def EvF (e : Expr) {τ : Type} (m : R τ) (ds : τ → List PyData) (Γ' : τ → List Sl) : Prop := PE X e (rdF X W Γ m ds Γ')
def EvA (es : List Expr) {τ : Type} (m : R τ) (as : τ → List AV) (Γ' : τ → List Sl) : Prop := PA X es (rdA X W Γ m as Γ')
abbrev EvP (e : Expr) (a : AV) : Prop := Ev X W Γ e (R.val ()) (fun _ => a) (fun _ => Γ)
end
theorem AVs.ext {K : PySem.W.Frag} {G G' : Gh} {H H' : Hp} {σ : St} (e : Ext G H G' H') : ∀ {vs : List V} {as : List AV}, AVs K G H σ vs as → AVs K G' H' σ vs as
  | _, _, .nil => .nil
  | _, _, .cons h a => .cons (h.ext e) (AVs.ext e a)
theorem pe_imp {X : Cx} {e : Expr} {t t' : TE} (h : PE X e t) (k : ∀ σ H Q, t' σ H Q → t σ H Q) : PE X e t' := ⟨fun pins s σ H Q I z => h.run pins s σ H Q I (k σ H Q z)⟩
theorem pt_imp {X : Cx} {e : Expr} {t t' : TT} (h : PT X e t) (k : ∀ σ H Q, t' σ H Q → t σ H Q) : PT X e t' := ⟨fun pins s σ H Q I z => h.run pins s σ H Q I (k σ H Q z)⟩
theorem pw_imp {X : Cx} {e : Expr} {t t' : TT} (h : PW X e t) (k : ∀ σ H Q, t' σ H Q → t σ H Q) : PW X e t' := ⟨fun w pins s σ H Q I z => h.run w pins s σ H Q I (k σ H Q z)⟩
theorem pa_imp {X : Cx} {es : List Expr} {t t' : TA} (h : PA X es t) (k : ∀ σ H Q, t' σ H Q → t σ H Q) : PA X es t' := ⟨fun pos pins s σ H Q I z => h.run pos pins s σ H Q I (k σ H Q z)⟩
theorem pe_any {X : Cx} {e : Expr} {α : Type} {t : α → TE} (h : ∀ x, PE X e (t x)) : PE X e (fun σ H Q => ∃ x, t x σ H Q) := ⟨fun pins s σ H Q I ⟨x, z⟩ => (h x).run pins s σ H Q I z⟩
theorem pw_any {X : Cx} {e : Expr} {α : Type} {t : α → TT} (h : ∀ x, PW X e (t x)) : PW X e (fun σ H Q => ∃ x, t x σ H Q) := ⟨fun w pins s σ H Q I ⟨x, z⟩ => (h x).run w pins s σ H Q I z⟩
theorem pa_any {X : Cx} {es : List Expr} {α : Type} {t : α → TA} (h : ∀ x, PA X es (t x)) : PA X es (fun σ H Q => ∃ x, t x σ H Q) := ⟨fun pos pins s σ H Q I ⟨x, z⟩ => (h x).run pos pins s σ H Q I z⟩
def visB (sc : Scope) (x : Str) : Bool := match sc.names.lookup x with
  | some .local => true
  | some .cell => true
  | some .free => true
  | _ => false
def glB (sc : Scope) (x : Str) : Bool := match sc.names.lookup x with
  | some .globalImplicit => true
  | _ => false
def locB (sc : Scope) (x : Str) : Bool := match sc.names.lookup x with
  | some .local => true
  | some .cell => true
  | _ => false
theorem loc_of {sc : Scope} {x : Str} (h : locB sc x = true) : Loc sc x := by
  unfold locB at h
  split at h
  · exact .inl ‹_›
  · exact .inr ‹_›
  · cases h
theorem vis_of {sc : Scope} {x : Str} (h : visB sc x = true) : Vis sc x := by
  unfold visB at h
  split at h
  · exact .inl ‹_›
  · exact .inr (.inl ‹_›)
  · exact .inr (.inr ‹_›)
  · cases h
theorem gl_of {sc : Scope} {x : Str} (h : glB sc x = true) : sc.names.lookup x = some .globalImplicit := by
  unfold glB at h
  split at h
  · assumption
  · cases h
def Sto (X : Cx) (sc : Scope) (x : Str) : Prop := Loc sc x ∧ (X.fn x = true ∨ sc.names.lookup x = some .local)
def lclB (sc : Scope) (x : Str) : Bool := match sc.names.lookup x with
  | some .local => true
  | _ => false
theorem sto_l {X : Cx} {sc : Scope} {x : Str} (h : lclB sc x = true) : Sto X sc x := by
  unfold lclB at h
  split at h
  · exact ⟨.inl ‹_›, .inr ‹_›⟩
  · cases h
theorem sto_c {X : Cx} {sc : Scope} {x : Str} (D : ∀ x, X.fn x = true) (h : locB sc x = true) : Sto X sc x := ⟨loc_of h, .inl (D x)⟩
theorem takes0N {X : Cx} : L2N.Takes X (fun _ _ _ _ => False) := fun _ _ ⟨_, _, _, _, _, _, _, _, _, _, _, _, _, _, _, _, w⟩ => w.elim
structure Cf0 (X : Cx) (W : WX) (sc : Scope) (N : List Str) : Prop where
  hsc : X.env.scope = sc
  hN : X.N = N
  nd : N.Nodup
  tk : L2N.Takes X W
  hu : X.A.units + 64 < cLine
  pass : PassesOwn (model X.prog X.w) X.A X.env X.xe
  hu2 : X.A.units + 150 < cLine
structure Cf (X : Cx) (W : WX) (sc : Scope) (N : List Str) : Prop extends Cf0 X W sc N where
  calm : X.calm = true
section
variable {X : Cx} {W : WX} {sc : Scope} {N : List Str} {Γ : List Sl}
theorem Cf0.gl (C : Cf0 X W sc N) {x : Str} (h : glB sc x = true) : Gl X x := by
  show X.env.scope.names.lookup x = _
  rw [C.hsc]
  exact gl_of h
theorem evp_of {e : Expr} {t : TE} {a : AV} (h : PE X e t) (k : ∀ σ H Q G, Sta X.K G H σ Γ → (∀ G' H' v, Ext G H G' H' → Sta X.K G' H' σ Γ → AVok X.K G' H' σ v a → Q v H') → t σ H Q) : EvP X W Γ e a :=
  pe_imp h fun σ H Q ⟨G, S, p⟩ => k σ H Q G S fun G' H' v e' S' a' => p G' H' e' v S' a'
theorem evp_var (C : Cf0 X W sc N) {i : Nat} {x : Str} {pos : Pos} {fr : Bool} {d : PyData} (hg : Γ[i]? = some (.dat fr d)) (hN : N[i]? = some x) (hv : visB sc x = true)
    (hd : (x == ("__debug__" : Str)) = false := by decide +kernel) (hcd : (x == ("__classdict__" : Str)) = false := by decide +kernel) : EvP X W Γ (.Name x pos) (.d fr d) := by
  refine evp_of (pe_var (i := i) (by rw [C.hN]; exact hN) (by rw [C.hsc]; exact vis_of hv) hd hcd) fun σ H Q G S k => ?_
  obtain ⟨A, T⟩ := id S
  obtain ⟨_, v, h1, h2⟩ := T.sl i _ hg
  exact ⟨v, h1, k G H v (Ext.rf S.w) S h2⟩
theorem evp_slot (C : Cf0 X W sc N) {i : Nat} {x : Str} {pos : Pos} {c : Cl} (hg : Γ[i]? = some (.own c) ∨ Γ[i]? = some (.io c) ∨ Γ[i]? = some (.lent c)) (hN : N[i]? = some x) (hv : visB sc x = true)
    (hd : (x == ("__debug__" : Str)) = false := by decide +kernel) (hcd : (x == ("__classdict__" : Str)) = false := by decide +kernel) : EvP X W Γ (.Name x pos) (.s i) := by
  refine evp_of (pe_var (i := i) (by rw [C.hN]; exact hN) (by rw [C.hsc]; exact vis_of hv) hd hcd) fun σ H Q G S k => ?_
  obtain ⟨A, T⟩ := id S
  have : ∃ v, σ[i]? = some (some v) := by
    rcases hg with hg | hg | hg
    · obtain ⟨v, h1, _⟩ := T.sl i _ hg
      exact ⟨v, h1⟩
    · obtain ⟨v, h1, _⟩ := T.sl i _ hg
      exact ⟨v, h1⟩
    · obtain ⟨_, p, o, h1, _⟩ := T.sl i _ hg
      exact ⟨_, h1⟩
  obtain ⟨v, h1⟩ := this
  exact ⟨v, h1, k G H v (Ext.rf S.w) S h1⟩
theorem evp_const {e : Expr} {v : V} {d : PyData} (h : PE X e (tC v)) (hd : ∀ K G H, Dn K G H v d) : EvP X W Γ e (.d true d) :=
  evp_of h fun σ H Q G S k => k G H v (Ext.rf S.w) S (hd _ _ _)
theorem evp_int {i : Int} {j : Nat} {pos : Pos} : EvP X W Γ (.Constant (.int i) j pos) (.d true (.int i)) := evp_const pe_int fun _ _ _ => .int i
theorem evp_bool {b : Bool} {j : Nat} {pos : Pos} : EvP X W Γ (.Constant (.bool b) j pos) (.d true (.bool b)) := evp_const pe_bl fun _ _ _ => .bl b
theorem evp_none {j : Nat} {pos : Pos} : EvP X W Γ (.Constant .none j pos) (.d true .none) := evp_const pe_non fun _ _ _ => .non
theorem evp_str {x : Str} {j : Nat} {pos : Pos} : EvP X W Γ (.Constant (.str x) j pos) (.d true (.str x)) := evp_const pe_str fun _ _ _ => .str x
theorem Ev.free {e : Expr} {τ : Type} {m : R τ} {fr fr' : Bool} {enc : τ → PyData} {Γ' : τ → List Sl} (h : Ev X W Γ e m (fun r => .d fr (enc r)) Γ') (hf : ∀ r, flat (enc r) = true) : Ev X W Γ e m (fun r => .d fr' (enc r)) Γ' :=
  pe_imp h fun σ H Q ⟨G, S, p⟩ => ⟨G, S, p.imp fun r G' H' _ k v S' a => k v S' (Dn.free a (hf r))⟩
theorem EvP.free {e : Expr} {fr fr' : Bool} {d : PyData} (h : EvP X W Γ e (.d fr d)) (hf : flat d = true) : EvP X W Γ e (.d fr' d) := Ev.free h fun _ => hf
theorem EvP.any {e : Expr} {fr : Bool} {d : PyData} (h : EvP X W Γ e (.d fr d)) : EvP X W Γ e (.d false d) :=
  pe_imp h fun σ H Q ⟨G, S, p⟩ => ⟨G, S, p.imp fun r G' H' _ k v S' a => k v S' (Dn.mono (rg_ff G' fr) (TupLe.rf _) a)⟩
theorem EvF.ev {e : Expr} {τ : Type} {m : R τ} {ds : τ → List PyData} {Γ' : τ → List Sl} (h : EvF X W Γ e m ds Γ') : Ev X W Γ e m (fun r => .d true (.list (ds r))) Γ' :=
  pe_imp h fun σ H Q ⟨G, S, p⟩ => ⟨G, S, p.impG fun r G' H' _ k p vs S' hp hd => by
    obtain ⟨S2, e2⟩ := S'.grow (grow_new (o := .lst vs) S'.w hp)
    exact k _ _ e2 _ S2 (.lst (.inl upd_same) (hd.mono e2.n e2.t))⟩
theorem bin_rd {α β γ : Type} {ma : R α} {ava : α → AV} {Γa : α → List Sl} {mb : α → R β} {avb : α → β → AV} {Γb : α → β → List Sl} {k : α → β → R γ} {avk : γ → AV} {Γk : γ → List Sl} {r : R2}
    (hk : ∀ x y G H σ u v Q, Sta X.K G H σ (Γb x y) → AVok X.K G H σ u (ava x) → AVok X.K G H σ v (avb x y) → Pst X W G H σ (k x y) (fun z G' H' => ∀ w, Sta X.K G' H' σ (Γk z) → AVok X.K G' H' σ w (avk z) → Q w H') → r u v H Q)
    {σ : St} {H : Hp} {Q : VK} (h : rdE X W Γ (ma.bind fun x => (mb x).bind fun y => k x y) avk Γk σ H Q) :
    tOp r (rdE X W Γ ma ava Γa) (fun σ H Q => ∃ x, rdE X W (Γa x) (mb x) (avb x) (Γb x) σ H Q) σ H Q := by
  obtain ⟨G, S, p⟩ := h
  refine ⟨G, S, (Pst.bind p).imp fun x G1 H1 e1 p1 u S1 a1 => ⟨x, G1, S1, (Pst.bind p1).imp fun y G2 H2 e2 p2 v S2 a2 => ?_⟩⟩
  exact hk x y G2 H2 σ u v Q S2 (a1.ext e2) a2 p2
variable {a b : Expr} {pos : Pos} {α β γ : Type} {ma : R α} {mb : α → R β} {Γa : α → List Sl} {Γb : α → β → List Sl} {Γk : γ → List Sl}
end
end PD
set_option Elab.async false
set_option linter.all false
set_option maxRecDepth 100000
set_option maxHeartbeats 4000000
set_option autoImplicit false
namespace PD
open PySem L2
theorem itT {P Q : Prop} (h : P) : if true = true then P else Q := by rw [if_pos rfl]; exact h
theorem itF {P Q : Prop} (h : Q) : if false = true then P else Q := by rw [if_neg (by simp)]; exact h
theorem R.bind_assoc {α β γ : Type} (m : R α) (f : α → R β) (g : β → R γ) : (m.bind f).bind g = m.bind fun a => (f a).bind g := by cases m <;> rfl
theorem R.bind_val {α : Type} (m : R α) : (m.bind fun a => .val a) = m := by cases m <;> rfl
def R.ofO {α : Type} : Option α → R α
  | some a => .val a
  | none => .bad
def R.req (b : Bool) : R Unit := if b then .val () else .bad
def cMul (i j : Int) : Bool := decide (i.natAbs.log2 + j.natAbs.log2 < 1000000)
def cDiv (_ j : Int) : Bool := decide (0 < j) && decide (j.natAbs.log2 < 9000)
def cMod (_ j : Int) : Bool := decide (0 < j)
def cShl (i j : Int) : Bool := decide (0 ≤ j) && decide ((Builtin.Int.intBits i : Int) + j ≤ 2 ^ 27)
def cShr (_ j : Int) : Bool := decide (0 ≤ j)
def cPow (i j : Int) : Bool := decide (0 ≤ j ∧ j ≤ 1000000 ∧ i.natAbs < 2 ^ 64)
theorem cMul_ok (i j : Int) (h : cMul i j = true) : CMulW i j := of_decide_eq_true (p := i.natAbs.log2 + j.natAbs.log2 < 1000000) h
theorem cDiv_ok (i j : Int) (h : cDiv i j = true) : CDivW i j := by
  unfold cDiv at h
  rw [Bool.and_eq_true] at h
  exact ⟨of_decide_eq_true h.1, of_decide_eq_true h.2⟩
theorem cMod_ok (i j : Int) (h : cMod i j = true) : 0 < j := of_decide_eq_true h
theorem cShl_ok (i j : Int) (h : cShl i j = true) : CShl i j := by
  unfold cShl at h
  rw [Bool.and_eq_true] at h
  exact ⟨of_decide_eq_true h.1, of_decide_eq_true h.2⟩
theorem cShr_ok (i j : Int) (h : cShr i j = true) : 0 ≤ j := of_decide_eq_true h
theorem cPow_ok (i j : Int) (h : cPow i j = true) : CPow i j := of_decide_eq_true (p := 0 ≤ j ∧ j ≤ 1000000 ∧ i.natAbs < 2 ^ 64) h
inductive Rdb (Γ : List Sl) : AV → PyData → Prop
  | d {fr : Bool} {z : PyData} : Rdb Γ (.d fr z) z
  | o {i : Nat} {es : List PyData} : Γ[i]? = some (.own (.lst es)) → Rdb Γ (.s i) (.list es)
  | i {i : Nat} {es : List PyData} : Γ[i]? = some (.io (.lst es)) → Rdb Γ (.s i) (.list es)
  | l {i : Nat} {es : List PyData} : Γ[i]? = some (.lent (.lst es)) → Rdb Γ (.s i) (.list es)
theorem atI_dn {K : PySem.W.Frag} {G : Rg} {H : Hp} {vs : List V} {ds : List PyData} {i : Int} {d : PyData} (h : DnA K G H vs ds) (e : atI ds i = some d) : ∃ v, atI vs i = some v ∧ Dn K G H v d := by
  unfold atI at e ⊢
  rw [h.length]
  cases q : ixN ds.length i with
  | none => rw [q] at e; cases e
  | some j =>
    rw [q] at e
    exact h.get' e
def szB {α : Type} (xs : List α) : Bool := decide (xs.length ≤ sizeLine)
def mkS (io : Bool) (c : Cl) : Sl := if io then .io c else .own c
theorem Sta.chg {K : PySem.W.Frag} {G : Gh} {H : Hp} {σ : St} {Γ : List Sl} {ds : List PyData} (s : Sta K G H σ Γ) (i : Nat) (io : Bool) (hi : Γ[i]? = some (mkS io (.lst ds))) :
    ∃ p vs, σ[i]? = some (some (.ref p)) ∧ H p = some (.lst vs) ∧ DnA K (rg G true) H vs ds ∧
      ∀ vs' ds', DnA K (rg G true) H vs' ds' → Sta K G (upd H p (.lst vs')) σ (Γ.set i (mkS io (.lst ds'))) ∧ Ext G H G (upd H p (.lst vs')) := by
  cases io with
  | true => exact s.changeIo i hi
  | false => exact s.change i hi
def ltS {α : Type} (xs : List α) : Bool := decide (xs.length < sizeLine)
section
variable {X : Cx} {W : WX} {sc : Scope} {N : List Str} {Γ : List Sl} {a b c : Expr} {pos : Pos}
theorem Ev.tst {e : Expr} {τ : Type} {m : R τ} {fr : Bool} {b : τ → Bool} {Γ1 : τ → List Sl} (h : Ev X W Γ e m (fun r => .d fr (.bool (b r))) Γ1) (he : ∀ whole, isTrue e X.env whole = (do let v ← whole; standAt e.pos; holding [v] (truthy v)) := by intro _; rfl) : EvT X W Γ e m b Γ1 :=
  pt_imp (pt_val h he) fun σ H Q ⟨G, S, p⟩ => ⟨G, S, Pst.imp p fun r G' H' _ k v S' a => ⟨b r, dn_bool a, k S'⟩⟩
theorem evt_notM {τ : Type} {m : R τ} {z : τ → Bool} {Γ1 : τ → List Sl} (ha : EvT X W Γ a m z Γ1) : EvT X W Γ (.UnaryOp .Not a pos) m (fun r => !z r) Γ1 :=
  pt_imp (pt_not ha) fun σ H Q ⟨G, S, p⟩ => ⟨G, S, p⟩
end
theorem Sta.lent {K : PySem.W.Frag} {G : Gh} {H : Hp} {σ : St} {Γ : List Sl} {i : Nat} {es : List PyData} {v : V} (S : Sta K G H σ Γ) (h : Γ[i]? = some (.own (.lst es)) ∨ Γ[i]? = some (.io (.lst es))) (hv : σ[i]? = some (some v)) : Dn K (RgH H) H v (.list es) := by
  rcases h with h | h
  · obtain ⟨p, vs, h1, h2, h3, _⟩ := S.change i h
    rw [hv] at h1
    cases h1
    exact .lst (.inl h2) (h3.mono (S.w.rgl true) (TupLe.rf _))
  · obtain ⟨p, vs, h1, h2, h3, _⟩ := S.changeIo i h
    rw [hv] at h1
    cases h1
    exact .lst (.inl h2) (h3.mono (S.w.rgl true) (TupLe.rf _))
theorem Sta.lentL {K : PySem.W.Frag} {G : Gh} {H : Hp} {σ : St} {Γ : List Sl} {i : Nat} {es : List PyData} (S : Sta K G H σ Γ) (h : Γ[i]? = some (.lent (.lst es))) : ∃ p vs, σ[i]? = some (some (.ref p)) ∧ H p = some (.lst vs) ∧ G.E p = some (.lst vs) ∧ DnA K (rg G true) H vs es := by
  obtain ⟨A, T⟩ := S
  obtain ⟨_, p, o, h1, h2, h3, h4, h5, q, vs, e, _, h6, h7⟩ := T.sl i _ h
  cases e
  rw [h3] at h6
  cases h6
  exact ⟨p, vs, h1, h3, h4, h7⟩
theorem Rdb.ok {K : PySem.W.Frag} {G : Gh} {H : Hp} {σ : St} {Γ : List Sl} {a : AV} {z : PyData} {v : V} (h : Rdb Γ a z) (S : Sta K G H σ Γ) (hv : AVok K G H σ v a) : Dn K (RgH H) H v z := by
  cases h with
  | d => exact S.w.dn hv
  | o hg => exact S.lent (.inl hg) hv
  | i hg => exact S.lent (.inr hg) hv
  | l hg =>
    obtain ⟨p, vs, h1, h2, _, h3⟩ := S.lentL hg
    have hv : σ[_]? = some (some v) := hv
    rw [h1] at hv
    cases hv
    exact .lst (.inl h2) (h3.mono (S.w.rgl true) (TupLe.rf _))
section
variable {X : Cx} {W : WX} {Γ : List Sl} {a b : Expr} {op : CmpOp} {pos : Pos}
theorem cmp_test {M : Model} {A : Around} {E : Value → Shared → Prop} {env : Env} {s : Shared} {l r : Expr} {op : CmpOp} {pos : Pos} {whole : Sem Value} {Q : Bool → Shared → Prop} (h : wpAny M A (eval (.Compare l [op] [r] pos) env) (fun c s' => wpAny M A (truthy c) Q E s') E s) (hm : behindInMarks op r = false) :
    wpAny M A (isTrue (.Compare l [op] [r] pos) env whole) Q E s := fun Γ p hΓ => by
  have q := h Γ p hΓ
  simp only [eval_Compare1, markedBehindIn_of_false hm, Sem.wp_bind', Sem.wp_holding, Sem.wp_cmd_standAt, Sem.wp_operate] at q
  simp only [isTrue_Compare1, markedBehindIn_of_false hm, Sem.wp_bind', Sem.wp_holding, Sem.wp_cmd_standAt, Sem.wp_operate]
  exact Sem.wp_mono M Γ _ (fun a p1 s1 h1 => Sem.wp_mono M Γ _ (fun b p2 s2 h2 => Sem.wp_mono M Γ _ (fun c p3 s3 h3 => h3 Γ p3 hΓ) (fun _ _ _ z => z) _ _ h2) (fun _ _ _ z => z) _ _ h1) (fun _ _ _ z => z) _ _ q
theorem pt_cmpV {X : Cx} {a b : Expr} {op : CmpOp} {pos : Pos} {t : TE} (h : PE X (.Compare a [op] [b] pos) t) (hm : behindInMarks op b = false) : PT X (.Compare a [op] [b] pos) (tB t) := by
  refine ⟨fun pins s σ H Q I hw => cmp_test (thn (h.run pins s σ H _ I hw) fun v s1 ⟨x, H1, I1, r1, q1⟩ => ?_) hm⟩
  obtain ⟨d, rfl, q⟩ := q1
  cases r1
  exact wpAny_truthy_bool ⟨H1, I1, q⟩
theorem Ev.tstC {τ : Type} {m : R τ} {fr : Bool} {z : τ → Bool} {Γ1 : τ → List Sl} (h : Ev X W Γ (.Compare a [op] [b] pos) m (fun r => .d fr (.bool (z r))) Γ1) (hm : behindInMarks op b = false := by first | exact nobehind _ (by decide) (by decide) | rfl) : EvT X W Γ (.Compare a [op] [b] pos) m z Γ1 :=
  pt_imp (pt_cmpV h hm) fun σ H Q ⟨G, S, p⟩ => ⟨G, S, Pst.imp p fun r G' H' _ k v S' a => ⟨z r, dn_bool a, k S'⟩⟩
end
theorem AVs.length {K : PySem.W.Frag} {G : Gh} {H : Hp} {σ : St} : ∀ {vs : List V} {as : List AV}, AVs K G H σ vs as → vs.length = as.length
  | _, _, .nil => rfl
  | _, _, .cons _ a => by simp [AVs.length a]
theorem Sta.newTup {K : PySem.W.Frag} {G : Gh} {H : Hp} {σ : St} {Γ : List Sl} {p : Addr} {vs : List V} {ds : List PyData} {fr : Bool} (S : Sta K G H σ Γ) (hp : H p = none) (hd : DnA K (rg G fr) H vs ds) :
    ∃ G', Sta K G' (upd H p (.tup vs)) σ Γ ∧ Ext G H G' (upd H p (.tup vs)) ∧ Dn K (rg G' fr) (upd H p (.tup vs)) (.ref p) (.tuple ds) := by
  obtain ⟨S', e⟩ := S.grow (grow_new (o := .tup vs) S.w hp)
  exact ⟨_, S', e, .tup upd_same (e.dna hd)⟩
theorem AVs.len {K : PySem.W.Frag} {G : Gh} {H : Hp} {σ : St} : ∀ {vs : List V} {as : List AV}, AVs K G H σ vs as → vs.length = as.length
  | _, _, .nil => rfl
  | _, _, .cons _ a => by simp [AVs.len a]
def max2 (i j : Int) : Int := if j > i then j else i
def min2 (i j : Int) : Int := if j < i then j else i
def b2n (b : Bool) : Int := if b then 1 else 0
def pyTy : PyData → String
  | .none => "NoneType"
  | .bool _ => "bool"
  | .int _ => "int"
  | .str _ => "str"
  | .list _ => "list"
  | .tuple _ => "tuple"
  | .dict _ => "dict"
section
variable {X : Cx} {W : WX} {Γ : List Sl} {a b c : Expr} {rest : List Expr} {pos : Pos} {α β γ : Type} {ma : R α} {ba : α → Bool} {Γa : α → List Sl} {mb : α → R β} {bb : α → β → Bool} {Γb : α → β → List Sl} {Γk : γ → List Sl} {bk : γ → Bool}
def EvWM (X : Cx) (W : WX) (Γ : List Sl) (e : Expr) {τ : Type} (m : R τ) (b : τ → Bool) (Γ' : τ → List Sl) : Prop := PW X e (rdT X W Γ m b Γ')
theorem EvWM.t {e : Expr} (h : EvWM X W Γ e ma ba Γa) : EvT X W Γ e ma ba Γa := PW.pt h
theorem evw_orM1 (h : EvT X W Γ a ma ba Γa) : EvWM X W Γ (.BoolOp .Or [a] pos) ma ba Γa := pw_or1 h
theorem evw_andM1 (h : EvT X W Γ a ma ba Γa) : EvWM X W Γ (.BoolOp .And [a] pos) ma ba Γa := pw_and1 h
theorem evw_orM (ha : EvT X W Γ a ma ba Γa) (hb : ∀ x, EvWM X W (Γa x) (.BoolOp .Or (b :: rest) pos) (mb x) (bb x) (Γb x)) (k1 : α → γ) (k2 : α → β → γ) (h1 : ∀ x, bk (k1 x) = true := by intros; rfl) (h2 : ∀ x, Γk (k1 x) = Γa x := by intros; rfl) (h3 : ∀ x y, bk (k2 x y) = bb x y := by intros; rfl) (h4 : ∀ x y, Γk (k2 x y) = Γb x y := by intros; rfl) :
    EvWM X W Γ (.BoolOp .Or (a :: b :: rest) pos) (ma.bind fun x => if ba x then .val (k1 x) else (mb x).bind fun y => .val (k2 x y)) bk Γk :=
  pw_imp (pw_or ha (pw_any hb)) fun σ H Q ⟨G, S, p⟩ => ⟨G, S, (Pst.bind p).imp fun x G1 H1 e1 p1 S1 => by
    cases hx : ba x with
    | true =>
      rw [if_pos hx] at p1
      have q := p1 G1 H1 (Ext.rf S1.w) (by rw [h2]; exact S1)
      rw [h1] at q
      exact itT q
    | false =>
      rw [if_neg (by rw [hx]; decide)] at p1
      exact itF ⟨x, G1, S1, (Pst.bind p1).imp fun y G2 H2 e2 p2 S2 => by
        have q := p2 G2 H2 (Ext.rf S2.w) (by rw [h4]; exact S2)
        rw [h3] at q
        exact q⟩⟩
theorem evw_andM (ha : EvT X W Γ a ma ba Γa) (hb : ∀ x, EvWM X W (Γa x) (.BoolOp .And (b :: rest) pos) (mb x) (bb x) (Γb x)) (k1 : α → γ) (k2 : α → β → γ) (h1 : ∀ x, bk (k1 x) = false := by intros; rfl) (h2 : ∀ x, Γk (k1 x) = Γa x := by intros; rfl) (h3 : ∀ x y, bk (k2 x y) = bb x y := by intros; rfl) (h4 : ∀ x y, Γk (k2 x y) = Γb x y := by intros; rfl) :
    EvWM X W Γ (.BoolOp .And (a :: b :: rest) pos) (ma.bind fun x => if ba x then (mb x).bind fun y => .val (k2 x y) else .val (k1 x)) bk Γk :=
  pw_imp (pw_and ha (pw_any hb)) fun σ H Q ⟨G, S, p⟩ => ⟨G, S, (Pst.bind p).imp fun x G1 H1 e1 p1 S1 => by
    cases hx : ba x with
    | false =>
      rw [if_neg (by rw [hx]; decide)] at p1
      have q := p1 G1 H1 (Ext.rf S1.w) (by rw [h2]; exact S1)
      rw [h1] at q
      exact itF q
    | true =>
      rw [if_pos hx] at p1
      exact itT ⟨x, G1, S1, (Pst.bind p1).imp fun y G2 H2 e2 p2 S2 => by
        have q := p2 G2 H2 (Ext.rf S2.w) (by rw [h4]; exact S2)
        rw [h3] at q
        exact q⟩⟩
variable {f1 f2 : Bool}
theorem evv_oneM {op : BoolOp} {av : α → AV} (ha : Ev X W Γ a ma av Γa) : Ev X W Γ (.BoolOp op [a] pos) ma av Γa := pe_one ha
end
section
variable {X : Cx} {W : WX} {sc : Scope} {N : List Str} {Γ : List Sl}
theorem eva_nil : EvA X W Γ [] (R.val ()) (fun _ => []) (fun _ => Γ) :=
  pa_imp pa_nil fun σ H Q ⟨G, S, p⟩ => p G H (Ext.rf S.w) [] S .nil
theorem eva_cons {e : Expr} {es : List Expr} {α β γ : Type} {ma : R α} {ava : α → AV} {Γa : α → List Sl} {mb : α → R β} {asb : α → β → List AV} {Γb : α → β → List Sl} (kk : α → β → γ) {as : γ → List AV} {Γk : γ → List Sl}
    (ha : Ev X W Γ e ma ava Γa) (hb : ∀ x, EvA X W (Γa x) es (mb x) (asb x) (Γb x)) (h1 : ∀ x y, as (kk x y) = ava x :: asb x y := by intros; rfl) (h2 : ∀ x y, Γk (kk x y) = Γb x y := by intros; rfl)
    (hst : starEach (e :: es) X.env = (false, eval e X.env) :: starEach es X.env := by rfl) :
    EvA X W Γ (e :: es) (ma.bind fun x => (mb x).bind fun y => .val (kk x y)) as Γk := by
  refine pa_imp (pa_cons ha (pa_any hb) hst) fun σ H Q ⟨G, S, p⟩ => ?_
  refine ⟨G, S, (Pst.bind p).imp fun x G1 H1 e1 p1 v S1 a1 => ⟨x, G1, S1, (Pst.bind p1).imp fun y G2 H2 e2 p2 vs S2 a2 => ?_⟩⟩
  refine p2 G2 H2 (Ext.rf S2.w) (v :: vs) (by rw [h2]; exact S2) ?_
  rw [h1]
  exact .cons (a1.ext e2) a2
end
end PD
set_option Elab.async false
set_option linter.all false
set_option maxRecDepth 100000
set_option maxHeartbeats 4000000
set_option autoImplicit false
namespace PD
open PySem L2
abbrev DF := List Sl → R (AV × List Sl)
abbrev DA := List Sl → R (List AV × List Sl)
abbrev DT := List Sl → R (Bool × List Sl)
abbrev DN := List Sl → R (List PyData × List Sl)
section
variable (X : Cx) (W : WX)
def CE (e : Expr) (f : DF) : Prop := ∀ Γ, Ev X W Γ e (f Γ) Prod.fst Prod.snd
def CT (e : Expr) (f : DT) : Prop := ∀ Γ, EvT X W Γ e (f Γ) Prod.fst Prod.snd
def CW (e : Expr) (f : DT) : Prop := ∀ Γ, EvWM X W Γ e (f Γ) Prod.fst Prod.snd
def CN (e : Expr) (f : DN) : Prop := ∀ Γ, EvF X W Γ e (f Γ) Prod.fst Prod.snd
def CA (es : List Expr) (f : DA) : Prop := ∀ Γ, EvA X W Γ es (f Γ) Prod.fst Prod.snd
def Pk (G : Gh) (H : Hp) (σ : St) (m : R (AV × List Sl)) (Q : VK) : Prop := Pst X W G H σ m fun y G' H' => ∀ w, Sta X.K G' H' σ y.2 → AVok X.K G' H' σ w y.1 → Q w H'
end
section
variable {X : Cx} {W : WX} {sc : Scope} {N : List Str} {a b c e : Expr} {pos : Pos} {f g : DF}
theorem Pk.v {G : Gh} {H : Hp} {σ : St} {y : AV} {Γ : List Sl} {Q : VK} (h : Pk X W G H σ (.val (y, Γ)) Q) (S : Sta X.K G H σ Γ) {w : V} (hw : AVok X.K G H σ w y) : Q w H := h G H (Ext.rf S.w) w S hw
theorem Pk.v' {G G' : Gh} {H H' : Hp} {σ : St} {y : AV} {Γ : List Sl} {Q : VK} (h : Pk X W G H σ (.val (y, Γ)) Q) (e : Ext G H G' H') (S : Sta X.K G' H' σ Γ) {w : V} (hw : AVok X.K G' H' σ w y) : Q w H' := h G' H' e w S hw
theorem ev_bad {τ : Type} {Γ : List Sl} {av : τ → AV} {Γ' : τ → List Sl} (h : PE X e (fun _ _ _ => False) := ⟨fun _ _ _ _ _ _ z => z.elim⟩) : Ev X W Γ e (R.bad : R τ) av Γ' := pe_imp h fun σ H Q ⟨G, S, p⟩ => p
theorem evt_bad {τ : Type} {Γ : List Sl} {av : τ → Bool} {Γ' : τ → List Sl} (h : PT X e (fun _ _ _ => False) := ⟨fun _ _ _ _ _ _ z => z.elim⟩) : EvT X W Γ e (R.bad : R τ) av Γ' := pt_imp h fun σ H Q ⟨G, S, p⟩ => p
def dVar (i : Nat) : DF := fun Γ => match Γ[i]? with
  | some (.dat fr d) => .val (.d fr d, Γ)
  | some (.own _) => .val (.s i, Γ)
  | some (.io _) => .val (.s i, Γ)
  | some (.lent _) => .val (.s i, Γ)
  | _ => .bad
theorem ce_var (C : Cf0 X W sc N) (i : Nat) {x : Str} (hN : N[i]? = some x) (hv : visB sc x = true)
    (hd : (x == ("__debug__" : Str)) = false := by decide +kernel) (hcd : (x == ("__classdict__" : Str)) = false := by decide +kernel) : CE X W (.Name x pos) (dVar i) := fun Γ => by
  unfold dVar
  split
  · exact evp_var C ‹_› hN hv hd hcd
  · exact evp_slot C (.inl ‹_›) hN hv hd hcd
  · exact evp_slot C (.inr (.inl ‹_›)) hN hv hd hcd
  · exact evp_slot C (.inr (.inr ‹_›)) hN hv hd hcd
  · exact ev_bad
def dC (d : PyData) : DF := fun Γ => .val (.d true d, Γ)
theorem ce_int {i : Int} {j : Nat} : CE X W (.Constant (.int i) j pos) (dC (.int i)) := fun Γ => evp_int (W := W)
theorem ce_bool {i : Bool} {j : Nat} : CE X W (.Constant (.bool i) j pos) (dC (.bool i)) := fun Γ => evp_bool (W := W)
theorem ce_none {j : Nat} : CE X W (.Constant .none j pos) (dC .none) := fun Γ => evp_none (W := W)
theorem ce_str {x : Str} {j : Nat} : CE X W (.Constant (.str x) j pos) (dC (.str x)) := fun Γ => evp_str (W := W)
theorem ce_op2 {op : Operator} {r : R2} (k : AV → AV → List Sl → R (AV × List Sl)) (ho : OpR X (binaryOp op) r) (ha : CE X W a f) (hb : CE X W b g)
    (hk : ∀ x y Γ2 G H σ u v Q, Sta X.K G H σ Γ2 → AVok X.K G H σ u x → AVok X.K G H σ v y → Pk X W G H σ (k x y Γ2) Q → r u v H Q) : CE X W (.BinOp a op b pos) (fun Γ => (f Γ).bind fun x => (g x.2).bind fun y => k x.1 y.1 y.2) := fun Γ =>
  pe_imp (pe_op ho (ha Γ) (pe_any fun x : AV × List Sl => hb x.2)) fun σ H Q h => bin_rd (X := X) (W := W) (ava := Prod.fst) (Γa := Prod.snd) (avb := fun _ (y : AV × List Sl) => y.1) (Γb := fun _ (y : AV × List Sl) => y.2) (avk := Prod.fst) (Γk := Prod.snd) (k := fun (x : AV × List Sl) (y : AV × List Sl) => k x.1 y.1 y.2) (fun x y G H σ u v Q S hu hv p => hk x.1 y.1 y.2 G H σ u v Q S hu hv p) h
def dI (k : Int → Int → R Int) (f g : DF) : DF := fun Γ => (f Γ).bind fun x => (g x.2).bind fun y => match x.1, y.1 with
  | .d _ (.int i), .d _ (.int j) => (k i j).bind fun n => .val (.d true (.int n), y.2)
  | _, _ => .bad
theorem ce_ii {op : Operator} {h : Int → Int → Int} {P : Int → Int → Prop} {k : Int → Int → R Int} (hk : ∀ i j, k i j = .bad ∨ (P i j ∧ k i j = .val (h i j))) (ho : OpR X (binaryOp op) (rI P fun i j => .int (h i j))) (ha : CE X W a f) (hb : CE X W b g) : CE X W (.BinOp a op b pos) (dI k f g) := by
  refine ce_op2 (fun x y Γ2 => match x, y with
    | .d _ (.int i), .d _ (.int j) => (k i j).bind fun n => .val (.d true (.int n), Γ2)
    | _, _ => .bad) ho ha hb fun x y Γ2 G H σ u v Q S hu hv p => ?_
  split at p
  · rename_i i _ j
    rcases hk i j with e | ⟨hP, e⟩
    · rw [e] at p; exact p.elim
    · rw [e] at p
      exact ⟨i, j, dn_int hu, dn_int hv, hP, Pk.v p S (.int _)⟩
  · exact p.elim
theorem opI_of {F : Value → Value → Sem Value} {h : Int → Int → V} (ho : OpR X F (rI0 h)) : OpR X F (rI (fun _ _ => True) h) := fun pins s σ H x y v u Q I rx ry ⟨i, j, e1, e2, _, q⟩ => ho pins s σ H x y v u Q I rx ry ⟨i, j, e1, e2, q⟩
theorem opR_or {F : Value → Value → Sem Value} {r1 r2 : R2} (h1 : OpR X F r1) (h2 : OpR X F r2) : OpR X F (fun u v H Q => r1 u v H Q ∨ r2 u v H Q) := fun pins s σ H x y v u Q I rx ry z => z.elim (h1 pins s σ H x y v u Q I rx ry) (h2 pins s σ H x y v u Q I rx ry)
def gq {α : Type} (c : Bool) (a : α) : R α := (R.req c).bind fun _ => .val a
theorem gq_cases {α : Type} (c : Bool) (a : α) : gq c a = .bad ∨ (c = true ∧ gq c a = .val a) := by
  cases c
  · exact .inl rfl
  · exact .inr ⟨rfl, rfl⟩
def cMulX (i j : Int) : Bool := decide (i.natAbs < 2 ^ 64) || decide (j.natAbs < 2 ^ 64) || cMul i j
theorem op_mulG : OpR X (binaryOp .Mult) (rI (fun i j => cMulX i j = true) fun i j => .int (i * j)) := fun pins s σ H x y v u Q I rx ry ⟨i, j, e1, e2, c, q⟩ => by
  have c : cMulX i j = true := c
  unfold cMulX at c
  rw [Bool.or_eq_true, Bool.or_eq_true] at c
  rcases c with (c | c) | c
  · have c := of_decide_eq_true c
    exact op_mul pins s σ H x y v u Q I rx ry ⟨i, j, e1, e2, .inl (by omega), q⟩
  · have c := of_decide_eq_true c
    exact op_mul pins s σ H x y v u Q I rx ry ⟨i, j, e1, e2, .inr (by omega), q⟩
  · exact op_mulW pins s σ H x y v u Q I rx ry ⟨i, j, e1, e2, cMul_ok i j c, q⟩
abbrev kSub (i j : Int) : R Int := .val (i - j)
abbrev kAnd (i j : Int) : R Int := .val (Builtin.bitAnd i j)
abbrev kOr (i j : Int) : R Int := .val (Builtin.bitOr i j)
abbrev kMul (i j : Int) : R Int := gq (cMulX i j) (i * j)
abbrev kDiv (i j : Int) : R Int := gq (cDiv i j) (i / j)
abbrev kMod (i j : Int) : R Int := gq (cMod i j) (i % j)
abbrev kPow (i j : Int) : R Int := gq (cPow i j) (i ^ j.toNat)
abbrev kShl (i j : Int) : R Int := gq (cShl i j) (i * 2 ^ j.toNat)
abbrev kShr (i j : Int) : R Int := gq (cShr i j) (i / 2 ^ j.toNat)
theorem ce_sub (ha : CE X W a f) (hb : CE X W b g) : CE X W (.BinOp a .Sub b pos) (dI kSub f g) := ce_ii (fun i j => .inr ⟨trivial, rfl⟩) (opI_of op_sub) ha hb
theorem ce_band (ha : CE X W a f) (hb : CE X W b g) : CE X W (.BinOp a .BitAnd b pos) (dI kAnd f g) := ce_ii (fun i j => .inr ⟨trivial, rfl⟩) (opI_of op_and) ha hb
theorem ce_bor (ha : CE X W a f) (hb : CE X W b g) : CE X W (.BinOp a .BitOr b pos) (dI kOr f g) := ce_ii (fun i j => .inr ⟨trivial, rfl⟩) (opI_of op_or) ha hb
theorem ce_mul (ha : CE X W a f) (hb : CE X W b g) : CE X W (.BinOp a .Mult b pos) (dI kMul f g) := ce_ii (fun i j => gq_cases _ _) op_mulG ha hb
theorem gqP {P : Int → Int → Prop} {c : Int → Int → Bool} (h : ∀ i j, c i j = true → P i j) (k : Int → Int → Int) (i j : Int) : gq (c i j) (k i j) = .bad ∨ (P i j ∧ gq (c i j) (k i j) = .val (k i j)) := (gq_cases _ _).imp id fun z => ⟨h i j z.1, z.2⟩
theorem ce_fdiv (ha : CE X W a f) (hb : CE X W b g) : CE X W (.BinOp a .FloorDiv b pos) (dI kDiv f g) := ce_ii (gqP cDiv_ok fun i j => i / j) op_fdivW ha hb
theorem ce_mod (ha : CE X W a f) (hb : CE X W b g) : CE X W (.BinOp a .Mod b pos) (dI kMod f g) := ce_ii (gqP cMod_ok fun i j => i % j) op_mod ha hb
theorem ce_pow (ha : CE X W a f) (hb : CE X W b g) : CE X W (.BinOp a .Pow b pos) (dI kPow f g) := ce_ii (gqP cPow_ok fun i j => i ^ j.toNat) op_pow ha hb
theorem ce_shl (ha : CE X W a f) (hb : CE X W b g) : CE X W (.BinOp a .LShift b pos) (dI kShl f g) := ce_ii (gqP cShl_ok fun i j => i * 2 ^ j.toNat) op_shlW ha hb
theorem ce_shr (ha : CE X W a f) (hb : CE X W b g) : CE X W (.BinOp a .RShift b pos) (dI kShr f g) := ce_ii (gqP cShr_ok fun i j => i / 2 ^ j.toNat) op_shr ha hb
def rdD (Γ : List Sl) : AV → Option PyData
  | .d _ x => some x
  | .s i => match Γ[i]? with
    | some (.own (.lst es)) => some (.list es)
    | some (.io (.lst es)) => some (.list es)
    | some (.lent (.lst es)) => some (.list es)
    | _ => none
theorem rdD_ok {Γ : List Sl} {y : AV} {x : PyData} (h : rdD Γ y = some x) : Rdb Γ y x := by
  cases y with
  | d fr z => cases h; exact .d
  | s i =>
    unfold rdD at h
    simp only at h
    split at h
    · cases h; exact .o ‹_›
    · cases h; exact .i ‹_›
    · cases h; exact .l ‹_›
    · cases h
def addA : AV → AV → R AV
  | .d _ (.int i), .d _ (.int j) => .val (.d true (.int (i + j)))
  | .d f1 (.tuple xs), .d f2 (.tuple ys) => gq (szB (xs ++ ys)) (.d (f1 && f2) (.tuple (xs ++ ys)))
  | .d _ (.str x), .d _ (.str y) => gq (decide (x.length + y.length ≤ sizeLine)) (.d true (.str (x ++ y)))
  | _, _ => .bad
def dAdd (f g : DF) : DF := fun Γ => (f Γ).bind fun x => (g x.2).bind fun y => (addA x.1 y.1).bind fun z => .val (z, y.2)
theorem rg_and1 (G : Gh) (f1 f2 : Bool) : RgLe (rg G f1) (rg G (f1 && f2)) := by
  cases f1 <;> cases f2
  · exact fun _ _ h => h
  · exact fun _ _ h => h
  · exact rg_ff G true
  · exact fun _ _ h => h
theorem rg_and2 (G : Gh) (f1 f2 : Bool) : RgLe (rg G f2) (rg G (f1 && f2)) := by
  rw [Bool.and_comm]
  exact rg_and1 G f2 f1
theorem ce_add (ha : CE X W a f) (hb : CE X W b g) : CE X W (.BinOp a .Add b pos) (dAdd f g) := by
  refine ce_op2 (fun x y Γ2 => (addA x y).bind fun z => .val (z, Γ2)) (opR_or op_add (opR_or op_catA op_add_str)) ha hb fun x y Γ2 G H σ u v Q S hu hv p => ?_
  unfold addA at p
  split at p
  · rename_i i _ j
    exact .inl ⟨i, j, dn_int hu, dn_int hv, Pk.v p S (.int _)⟩
  · rename_i f1 xs f2 ys
    rcases gq_cases (szB (xs ++ ys)) (AV.d (f1 && f2) (.tuple (xs ++ ys))) with e | ⟨hc, e⟩
    · rw [e] at p; exact p.elim
    · rw [e] at p
      have hc := of_decide_eq_true hc
      obtain ⟨q1, vs, rfl, g1, g2⟩ := dn_tupleH hu
      obtain ⟨q2, ws, rfl, g3, g4⟩ := dn_tupleH hv
      have d1 := g2.mono (rg_and1 G f1 f2) (TupLe.rf H)
      have d2 := g4.mono (rg_and2 G f1 f2) (TupLe.rf H)
      refine .inr (.inl ⟨q1, q2, vs, ws, rfl, rfl, SqT.of g1, SqT.of g3, by rw [g2.length, g4.length]; simpa using hc, fun e1 => ?_, fun _ e2 => ?_, fun _ _ l hl => ?_⟩)
      · subst e1
        cases d1
        exact Pk.v p S (.tup g3 d2)
      · subst e2
        cases d2
        refine Pk.v p S ?_
        rw [List.append_nil]
        exact .tup g1 d1
      · obtain ⟨G2, S2, e2, h2⟩ := S.newTup hl (d1.append d2)
        exact Pk.v' p e2 S2 h2
  · rename_i x _ y
    rcases gq_cases (decide (x.length + y.length ≤ sizeLine)) (AV.d true (.str (x ++ y))) with e | ⟨hc, e⟩
    · rw [e] at p; exact p.elim
    · rw [e] at p
      exact .inr (.inr ⟨x, y, dn_str hu, dn_str hv, of_decide_eq_true hc, Pk.v p S (.str _)⟩)
  · exact p.elim
def dNeg (f : DF) : DF := fun Γ => (f Γ).bind fun x => match x.1 with
  | .d _ (.int i) => .val (.d true (.int (-i)), x.2)
  | _ => .bad
end
section
variable {X : Cx} {W : WX} {sc : Scope} {N : List Str} {a b c e : Expr} {pos : Pos} {f g : DF}
theorem Ev.exc {Γ : List Sl} {τ τ' : Type} {x : Exn} {av : τ → AV} {Γ' : τ → List Sl} {av2 : τ' → AV} {Γ2 : τ' → List Sl} (h : Ev X W Γ e (.exc x : R τ) av Γ') : Ev X W Γ e (.exc x : R τ') av2 Γ2 := pe_imp h fun σ H Q ⟨G, S, p⟩ => ⟨G, S, p⟩
theorem Ev.map {Γ : List Sl} {τ τ' : Type} {m : R τ} {k : τ → τ'} {av : τ' → AV} {Γ' : τ' → List Sl} (h : Ev X W Γ e m (fun r => av (k r)) (fun r => Γ' (k r))) : Ev X W Γ e (m.bind fun r => .val (k r)) av Γ' :=
  pe_imp h fun σ H Q ⟨G, S, p⟩ => ⟨G, S, by cases m <;> exact p⟩
theorem un_rd {Γ : List Sl} {m : R (AV × List Sl)} {k : AV × List Sl → R (AV × List Sl)} {r : V → Hp → VK → Prop} (hk : ∀ x Γ2 G H σ v Q, Sta X.K G H σ Γ2 → AVok X.K G H σ v x → Pk X W G H σ (k (x, Γ2)) Q → r v H Q)
    {σ : St} {H : Hp} {Q : VK} (h : rdE X W Γ (m.bind k) Prod.fst Prod.snd σ H Q) : tUn r (rdE X W Γ m Prod.fst Prod.snd) σ H Q := by
  obtain ⟨G, S, p⟩ := h
  exact ⟨G, S, (Pst.bind p).imp fun x G1 H1 e1 p1 u S1 a1 => hk x.1 x.2 G1 H1 σ u Q S1 a1 p1⟩
theorem ce_neg (ha : CE X W a f) : CE X W (.UnaryOp .USub a pos) (dNeg f) := fun Γ =>
  pe_imp (pe_un un_neg (ha Γ)) fun σ H Q h => un_rd (fun x Γ2 G H σ v Q S hv p => by
    simp only at p
    split at p
    · exact ⟨_, dn_int hv, Pk.v p S (.int _)⟩
    · exact p.elim) h
theorem ce_cmp2 {op : CmpOp} {r : R2} (k : AV → AV → List Sl → R (AV × List Sl)) (ho : OpR X (compareOp op) r) (hm : behindInMarks op b = false) (ha : CE X W a f) (hb : CE X W b g)
    (hk : ∀ x y Γ2 G H σ u v Q, Sta X.K G H σ Γ2 → AVok X.K G H σ u x → AVok X.K G H σ v y → Pk X W G H σ (k x y Γ2) Q → r u v H Q) : CE X W (.Compare a [op] [b] pos) (fun Γ => (f Γ).bind fun x => (g x.2).bind fun y => k x.1 y.1 y.2) := fun Γ =>
  pe_imp (pe_cmpR ho (ha Γ) (pe_any fun x : AV × List Sl => hb x.2) hm) fun σ H Q h => bin_rd (X := X) (W := W) (ava := Prod.fst) (Γa := Prod.snd) (avb := fun _ (y : AV × List Sl) => y.1) (Γb := fun _ (y : AV × List Sl) => y.2) (avk := Prod.fst) (Γk := Prod.snd) (k := fun (x : AV × List Sl) (y : AV × List Sl) => k x.1 y.1 y.2) (fun x y G H σ u v Q S hu hv p => hk x.1 y.1 y.2 G H σ u v Q S hu hv p) h
def boolR (m : R Bool) (Γ : List Sl) : R (AV × List Sl) := m.bind fun b => .val (.d true (.bool b), Γ)
def dCmp (k : List Sl → AV → AV → R Bool) (f g : DF) : DF := fun Γ => (f Γ).bind fun x => (g x.2).bind fun y => boolR (k y.2 x.1 y.1) y.2
def kEq (Γ : List Sl) (x y : AV) : R Bool := match rdD Γ x, rdD Γ y with
  | some p, some q => gq (SeqAt.shaped p && SeqAt.shaped q) (PyData.eqv p q)
  | _, _ => .bad
def kNe (Γ : List Sl) (x y : AV) : R Bool := (kEq Γ x y).bind fun z => .val (!z)
theorem kEq_val {Γ : List Sl} {x y : AV} : (∃ p q, rdD Γ x = some p ∧ rdD Γ y = some q ∧ SeqAt.shaped p = true ∧ SeqAt.shaped q = true ∧ kEq Γ x y = .val (PyData.eqv p q)) ∨ kEq Γ x y = .bad := by
  unfold kEq
  split
  · rename_i p q h1 h2
    rcases gq_cases (SeqAt.shaped p && SeqAt.shaped q) (PyData.eqv p q) with e | ⟨hc, e⟩
    · exact .inr e
    · rw [Bool.and_eq_true] at hc
      exact .inl ⟨p, q, h1, h2, hc.1, hc.2, e⟩
  · exact .inr rfl
theorem ce_eq (C : Cf0 X W sc N) (ha : CE X W a f) (hb : CE X W b g) (hm : behindInMarks .Eq b = false := by first | exact nobehind _ (by decide) (by decide) | rfl) : CE X W (.Compare a [.Eq] [b] pos) (dCmp kEq f g) :=
  ce_cmp2 (fun x y Γ2 => boolR (kEq Γ2 x y) Γ2) (op_eqD C.hu) hm ha hb fun x y Γ2 G H σ u v Q S hu hv p => by
    rcases kEq_val (Γ := Γ2) (x := x) (y := y) with ⟨d, z, h1, h2, s1, s2, e⟩ | e
    · rw [e] at p
      exact ⟨d, z, ((rdD_ok h1).ok S hu).dps s1, ((rdD_ok h2).ok S hv).dps s2, s1, s2, Pk.v p S (.bl _)⟩
    · rw [e] at p; exact p.elim
theorem ce_ne (C : Cf0 X W sc N) (ha : CE X W a f) (hb : CE X W b g) (hm : behindInMarks .NotEq b = false := by first | exact nobehind _ (by decide) (by decide) | rfl) : CE X W (.Compare a [.NotEq] [b] pos) (dCmp kNe f g) :=
  ce_cmp2 (fun x y Γ2 => boolR (kNe Γ2 x y) Γ2) (op_neD C.hu) hm ha hb fun x y Γ2 G H σ u v Q S hu hv p => by
    unfold kNe at p
    rcases kEq_val (Γ := Γ2) (x := x) (y := y) with ⟨d, z, h1, h2, s1, s2, e⟩ | e
    · rw [e] at p
      exact ⟨d, z, ((rdD_ok h1).ok S hu).dps s1, ((rdD_ok h2).ok S hv).dps s2, s1, s2, Pk.v p S (.bl _)⟩
    · rw [e] at p; exact p.elim
def kI (h : Int → Int → Bool) (_ : List Sl) : AV → AV → R Bool
  | .d _ (.int i), .d _ (.int j) => .val (h i j)
  | _, _ => .bad
theorem ce_cmpI {op : CmpOp} {h : Int → Int → Bool} (ho : OpR X (compareOp op) (rI0 fun i j => .bl (h i j))) (ha : CE X W a f) (hb : CE X W b g) (hm : behindInMarks op b = false) : CE X W (.Compare a [op] [b] pos) (dCmp (kI h) f g) :=
  ce_cmp2 (fun x y Γ2 => boolR (kI h Γ2 x y) Γ2) ho hm ha hb fun x y Γ2 G H σ u v Q S hu hv p => by
    unfold kI at p
    split at p
    · rename_i i _ j
      exact ⟨i, j, dn_int hu, dn_int hv, Pk.v p S (.bl _)⟩
    · exact p.elim
theorem ce_lt (ha : CE X W a f) (hb : CE X W b g) (hm : behindInMarks .Lt b = false := by first | exact nobehind _ (by decide) (by decide) | rfl) : CE X W (.Compare a [.Lt] [b] pos) (dCmp (kI fun i j => decide (i < j)) f g) := ce_cmpI op_lt ha hb hm
theorem ce_le (ha : CE X W a f) (hb : CE X W b g) (hm : behindInMarks .LtE b = false := by first | exact nobehind _ (by decide) (by decide) | rfl) : CE X W (.Compare a [.LtE] [b] pos) (dCmp (kI fun i j => decide (i ≤ j)) f g) := ce_cmpI op_le ha hb hm
theorem ce_gt (ha : CE X W a f) (hb : CE X W b g) (hm : behindInMarks .Gt b = false := by first | exact nobehind _ (by decide) (by decide) | rfl) : CE X W (.Compare a [.Gt] [b] pos) (dCmp (kI fun i j => decide (j < i)) f g) := ce_cmpI op_gt ha hb hm
theorem ce_ge (ha : CE X W a f) (hb : CE X W b g) (hm : behindInMarks .GtE b = false := by first | exact nobehind _ (by decide) (by decide) | rfl) : CE X W (.Compare a [.GtE] [b] pos) (dCmp (kI fun i j => decide (j ≤ i)) f g) := ce_cmpI op_ge ha hb hm
def isN : PyData → Bool
  | .none => true
  | _ => false
def flD : PyData → Bool
  | .none => true
  | .bool _ => true
  | .int _ => true
  | .str _ => true
  | _ => false
def kIn (Γ : List Sl) (x y : AV) : R Bool := match rdD Γ x, rdD Γ y with
  | some d, some (.list ds) => gq (SeqAt.shaped d && SeqAt.shaped (.list ds)) (ds.any fun z => PyData.eqv z d)
  | some d, some (.tuple ds) => gq (flD d && ds.all flD) (ds.any fun z => PyData.eqv z d)
  | _, _ => .bad
theorem flD_ok {K : PySem.W.Frag} {G : Rg} {H : Hp} {v : V} {p : PyData} (h : Dn K G H v p) (hf : flD p = true) : flatV v = true := by cases h <;> first | rfl | cases hf
theorem eqV_ok {K : PySem.W.Frag} {G : Rg} {H : Hp} {v u : V} {p q : PyData} (h : Dn K G H v p) (h' : Dn K G H u q) (hf : flD p = true) (hq : flD q = true) : eqV v u = PyData.eqv p q := by
  cases h <;> first | cases hf; done | (cases h' <;> first | cases hq; done | (simp [eqV, PyData.eqv]))
theorem inV_ok {K : PySem.W.Frag} {G : Rg} {H : Hp} {v : V} {p : PyData} (h : Dn K G H v p) (hf : flD p = true) : ∀ {vs : List V} {ds : List PyData}, DnA K G H vs ds → ds.all flD = true → vs.all flatV = true ∧ inV v vs = ds.any fun z => PyData.eqv z p
  | _, _, .nil, _ => ⟨rfl, rfl⟩
  | _, _, .cons q r, hq => by
    simp only [List.all_cons, Bool.and_eq_true] at hq
    obtain ⟨h1, h2⟩ := inV_ok h hf r hq.2
    refine ⟨by simp [h1, flD_ok q hq.1], ?_⟩
    unfold inV at h2 ⊢
    rw [List.any_cons, List.any_cons, h2, eqV_ok q h hq.1 hf]
theorem kIn_cases {G : Gh} {H : Hp} {σ : St} {Γ : List Sl} {x y : AV} {u v : V} (S : Sta X.K G H σ Γ) (hu : AVok X.K G H σ u x) (hv : AVok X.K G H σ v y) : kIn Γ x y = .bad ∨ ∃ z, kIn Γ x y = .val z ∧
    ((∃ d ds, Dp X.K H u d ∧ Dp X.K H v (.list ds) ∧ SeqAt.shaped d = true ∧ SeqAt.shaped (.list ds) = true ∧ z = ds.any fun z => PyData.eqv z d) ∨
     (∃ p xs, v = .ref p ∧ SqT X.K H p xs ∧ flatV u = true ∧ xs.all flatV = true ∧ z = inV u xs)) := by
  unfold kIn
  split
  · rename_i d ds h1 h2
    rcases gq_cases (SeqAt.shaped d && SeqAt.shaped (.list ds)) (ds.any fun z => PyData.eqv z d) with e | ⟨hc, e⟩
    · exact .inl e
    · rw [Bool.and_eq_true] at hc
      exact .inr ⟨_, e, .inl ⟨d, ds, ((rdD_ok h1).ok S hu).dps hc.1, ((rdD_ok h2).ok S hv).dps hc.2, hc.1, hc.2, rfl⟩⟩
  · rename_i d ds h1 h2
    rcases gq_cases (flD d && ds.all flD) (ds.any fun z => PyData.eqv z d) with e | ⟨hc, e⟩
    · exact .inl e
    · rw [Bool.and_eq_true] at hc
      obtain ⟨p, xs, rfl, g1, g2⟩ := dn_tuple ((rdD_ok h2).ok S hv)
      obtain ⟨q1, q2⟩ := inV_ok ((rdD_ok h1).ok S hu) hc.1 g2 hc.2
      exact .inr ⟨_, e, .inr ⟨p, xs, rfl, g1, flD_ok ((rdD_ok h1).ok S hu) hc.1, q1, q2.symm⟩⟩
  · exact .inl rfl
def asB : AV × List Sl → R (Bool × List Sl)
  | (.d _ (.bool z), Γ) => .val (z, Γ)
  | _ => .bad
def dTst (f : DF) : DT := fun Γ => (f Γ).bind asB
theorem ct_lift {f : DF} (ha : CE X W e f) (h1 : ∀ Γ (z : Bool) (fr : Bool) (Γ1 : List Sl), Ev X W Γ e (R.val ()) (fun _ => .d fr (.bool z)) (fun _ => Γ1) → EvT X W Γ e (R.val ()) (fun _ => z) (fun _ => Γ1))
    (h2 : ∀ Γ x, Ev X W Γ e (.exc x : R Unit) (fun _ => .d true (.bool true)) (fun _ => Γ) → EvT X W Γ e (.exc x : R Unit) (fun _ => true) (fun _ => Γ)) : CT X W e (dTst f) := fun Γ => by
  have h := ha Γ
  unfold dTst
  cases hf : f Γ with
  | bad => exact evt_bad
  | exc x =>
    rw [hf] at h
    exact pt_imp (h2 Γ x (Ev.exc h)) fun σ H Q ⟨G, S, p⟩ => ⟨G, S, p⟩
  | val z =>
    rw [hf] at h
    obtain ⟨y, Γ1⟩ := z
    show EvT X W Γ e (asB (y, Γ1)) _ _
    unfold asB
    split
    · rename_i hz
      cases hz
      exact h1 Γ _ _ _ h
    · exact evt_bad
theorem ct_of (ha : CE X W e f) (he : ∀ whole, isTrue e X.env whole = (do let v ← whole; standAt e.pos; holding [v] (truthy v)) := by intro _; rfl) : CT X W e (dTst f) := ct_lift ha (fun Γ z fr Γ1 h => Ev.tst h he) (fun Γ x h => Ev.tst h he)
theorem ct_cmp {op : CmpOp} (ha : CE X W (.Compare a [op] [b] pos) f) (hm : behindInMarks op b = false := by first | exact nobehind _ (by decide) (by decide) | rfl) : CT X W (.Compare a [op] [b] pos) (dTst f) := ct_lift ha (fun Γ z fr Γ1 h => Ev.tstC h hm) (fun Γ x h => Ev.tstC h hm)
def dTnot (f : DT) : DT := fun Γ => (f Γ).bind fun z => .val (!z.1, z.2)
theorem EvT.map {Γ : List Sl} {τ τ' : Type} {m : R τ} {k : τ → τ'} {av : τ' → Bool} {Γ' : τ' → List Sl} (h : EvT X W Γ e m (fun r => av (k r)) (fun r => Γ' (k r))) : EvT X W Γ e (m.bind fun r => .val (k r)) av Γ' :=
  pt_imp h fun σ H Q ⟨G, S, p⟩ => ⟨G, S, by cases m <;> exact p⟩
theorem ct_not {f : DT} (ha : CT X W a f) : CT X W (.UnaryOp .Not a pos) (dTnot f) := fun Γ => EvT.map (evt_notM (ha Γ))
theorem ct_w {f : DT} (h : CW X W e f) : CT X W e f := fun Γ => (h Γ).t
variable {rest : List Expr}
theorem cw_or1 {f : DT} (h : CT X W a f) : CW X W (.BoolOp .Or [a] pos) f := fun Γ => evw_orM1 (h Γ)
theorem cw_and1 {f : DT} (h : CT X W a f) : CW X W (.BoolOp .And [a] pos) f := fun Γ => evw_andM1 (h Γ)
def dTor (f g : DT) : DT := fun Γ => (f Γ).bind fun x => if x.1 then .val (true, x.2) else (g x.2).bind fun y => .val y
def dTand (f g : DT) : DT := fun Γ => (f Γ).bind fun x => if x.1 then (g x.2).bind fun y => .val y else .val (false, x.2)
theorem cw_or {f g : DT} (ha : CT X W a f) (hb : CW X W (.BoolOp .Or (b :: rest) pos) g) : CW X W (.BoolOp .Or (a :: b :: rest) pos) (dTor f g) := fun Γ => evw_orM (ha Γ) (fun x => hb x.2) (fun x => (true, x.2)) (fun _ y => y)
theorem cw_and {f g : DT} (ha : CT X W a f) (hb : CW X W (.BoolOp .And (b :: rest) pos) g) : CW X W (.BoolOp .And (a :: b :: rest) pos) (dTand f g) := fun Γ => evw_andM (ha Γ) (fun x => hb x.2) (fun x => (false, x.2)) (fun _ y => y)
end
section
variable {X : Cx} {W : WX} {sc : Scope} {N : List Str} {a b c e : Expr} {es : List Expr} {pos p : Pos} {f g : DF} {k : DA}
theorem ce_one {op : BoolOp} (ha : CE X W a f) : CE X W (.BoolOp op [a] pos) f := fun Γ => evv_oneM (ha Γ)
variable {rest : List Expr}
def dAnd (f g : DF) : DF := fun Γ => (f Γ).bind fun x => (asB x).bind fun u => if u.1 then (g u.2).bind fun y => (asB y).bind fun z => .val (.d true (.bool z.1), z.2) else .val (.d true (.bool false), u.2)
def dOr (f g : DF) : DF := fun Γ => (f Γ).bind fun x => (asB x).bind fun u => if u.1 then .val (.d true (.bool true), u.2) else (g u.2).bind fun y => (asB y).bind fun z => .val (.d true (.bool z.1), z.2)
theorem ce_and (ha : CE X W a f) (hb : CE X W (.BoolOp .And (b :: rest) pos) g) : CE X W (.BoolOp .And (a :: b :: rest) pos) (dAnd f g) := fun Γ =>
  pe_imp (pe_and (ha Γ) (pe_any fun Γ1 => hb Γ1)) fun σ H Q ⟨G, S, q⟩ => ⟨G, S, (Pst.bind q).imp fun x G1 H1 e1 p1 v S1 hv => by
    obtain ⟨x, Γ1⟩ := x
    unfold asB at p1
    split at p1
    · rename_i z Γ2 hz
      cases hz
      refine ⟨_, dn_bool hv, ?_⟩
      have p1 : Pst X W G1 H1 σ (if z then (g Γ1).bind fun y => (asB y).bind fun z => .val (.d true (.bool z.1), z.2) else .val (.d true (.bool false), Γ1)) (fun r G' H' => ∀ w, Sta X.K G' H' σ r.2 → AVok X.K G' H' σ w r.1 → Q w H') := p1
      cases z with
      | false => exact itF (p1 G1 H1 (Ext.rf S1.w) _ S1 (.bl _))
      | true =>
        refine itT ⟨Γ1, G1, S1, (Pst.bind p1).imp fun y G2 H2 e2 p2 w S2 hw => ?_⟩
        obtain ⟨y, Γ2⟩ := y
        unfold asB at p2
        split at p2
        · rename_i hz
          cases hz
          have hw : Dn X.K _ H2 w (.bool _) := hw
          rw [dn_bool hw]
          exact p2 G2 H2 (Ext.rf S2.w) _ S2 (.bl _)
        · exact p2.elim
    · exact p1.elim⟩
def dNot (f : DF) : DF := fun Γ => (f Γ).bind fun x => (asB x).bind fun u => .val (.d true (.bool (!u.1)), u.2)
theorem ce_not (ha : CE X W a f) : CE X W (.UnaryOp .Not a pos) (dNot f) := fun Γ =>
  pe_imp (pe_not (ha Γ)) fun σ H Q ⟨G, S, q⟩ => ⟨G, S, (Pst.bind q).imp fun x G1 H1 e1 p1 v S1 hv => by
    obtain ⟨x, Γ1⟩ := x
    unfold asB at p1
    split at p1
    · rename_i z Γ2 hz
      cases hz
      exact ⟨_, dn_bool hv, p1 G1 H1 (Ext.rf S1.w) _ S1 (.bl _)⟩
    · exact p1.elim⟩
def dA0 : DA := fun Γ => .val ([], Γ)
def dAc (f : DF) (k : DA) : DA := fun Γ => (f Γ).bind fun x => (k x.2).bind fun y => .val (x.1 :: y.1, y.2)
theorem ca_nil : CA X W [] dA0 := fun Γ => eva_nil (W := W)
theorem ca_cons (ha : CE X W e f) (hb : CA X W es k) (hst : starEach (e :: es) X.env = (false, eval e X.env) :: starEach es X.env := by rfl) : CA X W (e :: es) (dAc f k) := fun Γ => eva_cons (as := Prod.fst) (Γk := Prod.snd) (fun (x : AV × List Sl) (y : List AV × List Sl) => (x.1 :: y.1, y.2)) (ha Γ) (fun x => hb x.2) (fun _ _ => rfl) (fun _ _ => rfl) hst
def frzA : AV × List Sl → R (AV × List Sl)
  | (.d true d, Γ) => .val (.d true d, Γ)
  | (.d false d, Γ) => .val (.d (flat d) d, Γ)
  | (.s i, Γ) => match Γ[i]? with
    | some (.own (.lst es)) => .val (.d true (.list es), Γ.set i (.dat true (.list es)))
    | _ => .bad
def dFrz (f : DF) : DF := fun Γ => (f Γ).bind frzA
theorem Pk.ext {G G' : Gh} {H H' : Hp} {σ : St} {m : R (AV × List Sl)} {Q : VK} (h : Pk X W G H σ m Q) (e : Ext G H G' H') : Pk X W G' H' σ m Q := Pst.ext h e
theorem frz_ok {G : Gh} {H : Hp} {σ : St} {x : AV} {Γ : List Sl} {v : V} {Q : VK} (S : Sta X.K G H σ Γ) (hv : AVok X.K G H σ v x) (p : Pk X W G H σ (frzA (x, Γ)) Q) : Q v H := by
  unfold frzA at p
  split at p
  · rename_i hz; cases hz; exact Pk.v p S hv
  · rename_i d Γ2 hz
    cases hz
    refine Pk.v p S ?_
    cases hf : flat d with
    | false => exact hv
    | true => exact Dn.free hv hf
  · rename_i i Γ2 hz
    cases hz
    split at p
    · rename_i ds hi
      obtain ⟨A, T⟩ := id S
      obtain ⟨G2, S2, e2⟩ := S.freeze i hi
      have h2 : (Γ.set i (.dat true (.list ds)))[i]? = some (.dat true (.list ds)) := set_at (List.getElem?_eq_some_iff.mp hi).1
      obtain ⟨A2, T2⟩ := id S2
      obtain ⟨_, w, g1, g2⟩ := T2.sl i _ h2
      have hv : σ[i]? = some (some v) := hv
      rw [hv] at g1
      cases g1
      exact Pk.v' p e2 S2 g2
    · exact p.elim
theorem ce_frz (ha : CE X W e f) : CE X W e (dFrz f) := fun Γ =>
  pe_imp (ha Γ) fun σ H Q ⟨G, S, q⟩ => ⟨G, S, (Pst.bind q).imp fun x G1 H1 e1 p1 v S1 hv => frz_ok (x := x.1) (Γ := x.2) S1 hv p1⟩
def avD : AV → Option PyData
  | .d true d => some d
  | _ => none
def allT : List AV → Option (List PyData)
  | [] => some []
  | .d true d :: as => (allT as).map (d :: ·)
  | _ => none
def allF : List AV → Option (List PyData × Bool)
  | [] => some ([], true)
  | .d fr d :: as => (allF as).map fun z => (d :: z.1, fr && z.2)
  | _ => none
theorem allT_ok {K : PySem.W.Frag} {G : Gh} {H : Hp} {σ : St} : ∀ {as : List AV} {ds : List PyData} {vs : List V}, allT as = some ds → AVs K G H σ vs as → DnA K (rg G true) H vs ds
  | [], _, _, h, .nil => by cases h; exact .nil
  | .d true d :: as, ds, _, h, .cons q r => by
    unfold allT at h
    cases e : allT as with
    | none => rw [e] at h; cases h
    | some xs => rw [e] at h; cases h; exact .cons q (allT_ok e r)
  | .d false d :: as, ds, _, h, _ => by cases h
  | .s i :: as, ds, _, h, _ => by cases h
theorem allF_ok {K : PySem.W.Frag} {G : Gh} {H : Hp} {σ : St} : ∀ {as : List AV} {z : List PyData × Bool} {vs : List V}, allF as = some z → AVs K G H σ vs as → DnA K (rg G z.2) H vs z.1
  | [], _, _, h, .nil => by cases h; exact .nil
  | .d fr d :: as, ds, _, h, .cons q r => by
    unfold allF at h
    cases e : allF as with
    | none => rw [e] at h; cases h
    | some xs =>
      rw [e] at h
      cases h
      exact .cons (Dn.mono (rg_and1 G fr xs.2) (TupLe.rf _) q) ((allF_ok e r).mono (rg_and2 G fr xs.2) (TupLe.rf _))
  | .s i :: as, ds, _, h, _ => by cases h
def dLst (k : DA) : DN := fun Γ => (k Γ).bind fun z => match allT z.1 with
  | some ds => gq (szB z.1) (ds, z.2)
  | none => .bad
theorem cn_lst (ha : CA X W es k) : CN X W (.List es pos) (dLst k) := fun Γ =>
  pe_imp (pe_lst (ha Γ)) fun σ H Q ⟨G, S, q⟩ => ⟨G, S, (Pst.bind q).imp fun x G1 H1 e1 p1 vs S1 av => by
    split at p1
    · rename_i ds hd
      rcases gq_cases (szB x.1) (ds, x.2) with e | ⟨hc, e⟩
      · rw [e] at p1; exact p1.elim
      · rw [e] at p1
        exact ⟨by rw [av.len]; exact of_decide_eq_true hc, fun q hq => p1 G1 H1 (Ext.rf S1.w) q vs S1 hq (allT_ok hd av)⟩
    · exact p1.elim⟩
def dTup (k : DA) : DF := fun Γ => (k Γ).bind fun z => match allF z.1 with
  | some ds => gq (szB z.1) (.d ds.2 (.tuple ds.1), z.2)
  | none => .bad
theorem ce_tup {kk : Nat} (ha : CA X W es k) : CE X W (.Tuple es kk pos) (dTup k) := fun Γ =>
  pe_imp (pe_tup (ha Γ)) fun σ H Q ⟨G, S, q⟩ => ⟨G, S, (Pst.bind q).imp fun x G1 H1 e1 p1 vs S1 av => by
    split at p1
    · rename_i ds hd
      rcases gq_cases (szB x.1) (AV.d ds.2 (.tuple ds.1), x.2) with e | ⟨hc, e⟩
      · rw [e] at p1; exact p1.elim
      · rw [e] at p1
        refine ⟨by rw [av.len]; exact of_decide_eq_true hc, fun q hq => ?_⟩
        obtain ⟨G2, S2, e2, h2⟩ := S1.newTup hq (allF_ok hd av)
        exact p1 G2 _ e2 _ S2 h2
    · exact p1.elim⟩
def dOfN (n : DN) : DF := fun Γ => (n Γ).bind fun z => .val (.d true (.list z.1), z.2)
theorem ce_ofN {n : DN} (h : CN X W e n) : CE X W e (dOfN n) := fun Γ => Ev.map (k := fun z : List PyData × List Sl => (AV.d true (.list z.1), z.2)) (EvF.ev (h Γ))
def ixA (Γ : List Sl) (x y : AV) : R AV := match x, y with
  | .d fr (.list ds), .d _ (.int i) => (R.ofO (atI ds i)).bind fun d => .val (.d fr d)
  | .d fr (.tuple ds), .d _ (.int i) => (R.ofO (atI ds i)).bind fun d => .val (.d fr d)
  | .s j, .d _ (.int i) => match rdD Γ (.s j) with
    | some (.list ds) => (R.ofO (atI ds i)).bind fun d => .val (.d true d)
    | _ => .bad
  | _, _ => .bad
theorem Sta.slotL {K : PySem.W.Frag} {G : Gh} {H : Hp} {σ : St} {Γ : List Sl} {j : Nat} {ds : List PyData} {u : V} (S : Sta K G H σ Γ) (h : rdD Γ (.s j) = some (.list ds)) (hu : σ[j]? = some (some u)) : ∃ p vs, u = .ref p ∧ H p = some (.lst vs) ∧ DnA K (rg G true) H vs ds := by
  have hg : Γ[j]? = some (.own (.lst ds)) ∨ Γ[j]? = some (.io (.lst ds)) ∨ Γ[j]? = some (.lent (.lst ds)) := by
    unfold rdD at h
    simp only at h
    split at h
    · cases h; exact .inl ‹_›
    · cases h; exact .inr (.inl ‹_›)
    · cases h; exact .inr (.inr ‹_›)
    · cases h
  have : ∃ p vs, σ[j]? = some (some (.ref p)) ∧ H p = some (.lst vs) ∧ DnA K (rg G true) H vs ds := by
    rcases hg with hg | hg | hg
    · obtain ⟨p, vs, q1, q2, q3, _⟩ := S.change j hg
      exact ⟨p, vs, q1, q2, q3⟩
    · obtain ⟨p, vs, q1, q2, q3, _⟩ := S.changeIo j hg
      exact ⟨p, vs, q1, q2, q3⟩
    · obtain ⟨p, vs, q1, q2, _, q3⟩ := S.lentL hg
      exact ⟨p, vs, q1, q2, q3⟩
  obtain ⟨p, vs, q1, q2, q3⟩ := this
  rw [q1] at hu
  cases hu
  exact ⟨p, vs, rfl, q2, q3⟩
end
end PD
set_option Elab.async false
set_option linter.all false
set_option maxRecDepth 100000
set_option maxHeartbeats 4000000
set_option autoImplicit false
namespace PD
open PySem L2
def NewC (K : PySem.W.Frag) (G : Rg) (H : Hp) (c : Cl) (v : V) (H' : Hp) : Prop := ∃ fp : List Addr, (∀ a, a ∉ fp → H' a = H a) ∧ (∀ p ∈ fp, H p = none ∧ H' p ≠ none) ∧ c.ok K G H' v fp
theorem newc_lst {K : PySem.W.Frag} {G : Rg} {H : Hp} {p : Addr} {vs : List V} {ds : List PyData} (hp : H p = none) (hd : DnA K G H vs ds) : NewC K G H (.lst ds) (.ref p) (upd H p (.lst vs)) :=
  ⟨[p], fun a h => upd_ne (by simpa using h), fun q hq => by
    have : q = p := by simpa using hq
    subst this
    exact ⟨hp, by rw [upd_same]; simp⟩, p, vs, rfl, rfl, upd_same, hd.mono (fun _ _ z => z) (tup_upd hp)⟩
theorem newc_dic {K : PySem.W.Frag} {G : Rg} {H : Hp} {p : Addr} {o : HO} {t : Dk} {vs : List V} {kvs : List (PyData × PyData)} (hp : H p = none) (ho : DcO t p o (kvs.map (·.1)) vs) (hd : DnA K G H vs (kvs.map (·.2))) : NewC K G H (.dic t kvs) (.ref p) (upd H p o) :=
  ⟨[p], fun a h => upd_ne (by simpa using h), fun q hq => by
    have : q = p := by simpa using hq
    subst this
    exact ⟨hp, by rw [upd_same]; simp⟩, p, o, vs, rfl, rfl, upd_same, ho, hd.mono (fun _ _ z => z) (tup_upd hp)⟩
theorem NewC.grow {K : PySem.W.Frag} {G : Gh} {H H' : Hp} {R' : Rg} {c : Cl} {v : V} (w : Wf G H) {fp : List Addr} (h1 : ∀ a, a ∉ fp → H' a = H a) (h2 : ∀ p ∈ fp, H p = none ∧ H' p ≠ none) : Grow G H G.N H' [] := by
  have k : ∀ a o, H a = some o → H' a = some o := fun a o h => by
    rw [h1 a fun hp => by rw [(h2 a hp).1] at h; cases h]
    exact h
  exact ⟨fun a o h _ => k a o h, fun _ h => absurd h (by simp), fun a xs h => k _ _ h, fun _ _ h => h, fun a o h => ⟨k _ _ (w.new a o h).1, .inl h⟩⟩
theorem Sta.putC {K : PySem.W.Frag} {G : Gh} {H H' : Hp} {σ : St} {Γ : List Sl} {c : Cl} {v : V} (s : Sta K G H σ Γ) (i : Nat) (h : NewC K (rg G true) H c v H') : Sta K G H' (σ.set i (some v)) (Γ.set i (.own c)) ∧ Ext G H G H' := by
  obtain ⟨A, S⟩ := s
  obtain ⟨fp, h1, h2, h3⟩ := h
  refine S.step (i := i) (fp' := fp) (NewC.grow (K := K) (R' := rg G true) (c := c) (v := v) S.w h1 h2) (fun p hp => absurd hp (by simp)) (fun j hj => List.getElem?_set_ne (Ne.symm hj)) (List.length_set ..) (fun hlt => ⟨v, ?_, fun q hq => ?_, h3⟩) (fun q hq => ?_)
  · exact set_at (by rw [← S.len]; exact hlt)
  · exact (S.w.fresh (h2 q hq).1).2.1
  · exact ⟨(h2 q hq).2, (S.w.fresh (h2 q hq).1).1, .inr (h2 q hq).1⟩
theorem Cl.nt {K : PySem.W.Frag} {G : Rg} {H : Hp} {v : V} {fp : List Addr} {c : Cl} (h : c.ok K G H v fp) : ∀ p ∈ fp, ∃ o, H p = some o ∧ (∀ xs, o ≠ .tup xs) ∧ ∀ x y, o ≠ .frz x y := by
  cases c with
  | lst ds =>
    obtain ⟨p, vs, rfl, rfl, h1, h2⟩ := h
    intro q hq
    have : q = p := by simpa using hq
    subst this
    exact ⟨_, h1, fun _ z => (nomatch z), fun _ _ z => (nomatch z)⟩
  | tr T => exact h.1.nt
  | mul t l => exact h.1.nt
  | dic t kvs =>
    obtain ⟨p, o, vs, rfl, rfl, h1, h2, h3⟩ := h
    intro q hq
    have : q = p := by simpa using hq
    subst this
    cases t with
    | k => obtain ⟨_, rfl, _⟩ := h2; exact ⟨_, h1, fun _ z => (nomatch z), fun _ _ z => (nomatch z)⟩
    | t => obtain ⟨_, rfl, _⟩ := h2; exact ⟨_, h1, fun _ z => (nomatch z), fun _ _ z => (nomatch z)⟩
    | n => obtain ⟨_, _, rfl, _⟩ := h2; exact ⟨_, h1, fun _ z => (nomatch z), fun _ _ z => (nomatch z)⟩
  | feed f =>
    obtain ⟨d, l, rfl, rfl, h3, h4, h5⟩ := h
    intro q hq
    simp only [List.mem_cons, List.not_mem_nil, or_false] at hq
    rcases hq with rfl | rfl
    · exact ⟨_, h4, fun _ z => (nomatch z), fun _ _ z => (nomatch z)⟩
    · exact ⟨_, h5, fun _ z => (nomatch z), fun _ _ z => (nomatch z)⟩
theorem Sta.releaseC {K : PySem.W.Frag} {G : Gh} {H : Hp} {σ : St} {Γ : List Sl} {c : Cl} (s : Sta K G H σ Γ) (i : Nat) (hi : Γ[i]? = some (.own c)) :
    ∃ v H', σ[i]? = some (some v) ∧ Sta K G H' σ (Γ.set i .un) ∧ Ext G H G H' ∧ NewC K (rg G true) H' c v H := by
  obtain ⟨A, S⟩ := s
  obtain ⟨v, h1, h0, hc⟩ := S.sl i _ hi
  have nt := Cl.nt hc
  let H' : Hp := fun a => if a ∈ A i then none else H a
  have hne : ∀ a, a ∉ A i → H' a = H a := fun a h => if_neg h
  have hin : ∀ a, a ∈ A i → H' a = none := fun a h => if_pos h
  have nA : ∀ j, j ≠ i → ∀ p, p ∈ A j → p ∉ A i := fun j hj p h h' => hj (S.dj j i p h h')
  have t : TupLe H H' := fun a xs h => by
    rw [hne a fun z => by obtain ⟨o, e, q, _⟩ := nt a z; rw [e] at h; exact q xs (Option.some.inj h)]
    exact h
  have w : Wf G H' := by
    refine ⟨fun a u h h2 => ?_, fun a u h => ?_, fun a h => ?_, S.w.p0, fun a u h => ?_, fun i q h => (S.w.iv i q h).imp id fun z => z.imp id fun ⟨xs, z⟩ => ⟨xs, t q xs z⟩⟩
    · rw [hne a fun z => by rw [h0 a z] at h; cases h]
      exact S.w.keep a u h h2
    · rw [hne a fun z => by rw [(S.al i a z).2.1] at h; cases h]
      exact S.w.new a u h
    · rw [hne a fun z => S.w.p0 a h (h0 a z)]
      exact S.w.pal a h
    · rw [hne a fun z => by rw [S.ae i a z] at h; cases h]
      exact S.w.ex a u h
  have e : Ext G H G H' := ⟨rfl, rfl, rfl, rfl, fun _ _ h => h, fun _ _ h => .inl h, t, w⟩
  refine ⟨v, H', h1, ⟨fun j => if j = i then [] else A j, w, by rw [List.length_set]; exact S.len, fun j s h => ?_, fun j q h => ?_, fun j q h => ?_, fun j k q h h2 => ?_, rf_set S.rf rfl (fun j hj => if_neg hj) (fun _ _ => rfl)⟩, e, A i, fun a h => (hne a h).symm, fun p hp => ⟨hin p hp, (S.al i p hp).1⟩, hc⟩
  · by_cases hj : j = i
    · subst hj
      rw [List.getElem?_set_self (List.getElem?_eq_some_iff.mp hi).1] at h
      cases h
      show (if j = j then [] else A j) = []
      rw [if_pos rfl]
    · rw [List.getElem?_set_ne (Ne.symm hj)] at h
      show SlOk K G H' j σ[j]? (if j = i then [] else A j) s
      rw [if_neg hj]
      exact (S.sl j s h).mono e fun a ha => hne a (nA j hj a ha)
  · by_cases hj : j = i
    · rw [if_pos hj] at h; cases h
    · rw [if_neg hj] at h
      exact ⟨by rw [hne q (nA j hj q h)]; exact (S.al j q h).1, (S.al j q h).2⟩
  · by_cases hj : j = i
    · rw [if_pos hj] at h; cases h
    · rw [if_neg hj] at h
      exact S.ae j q h
  · by_cases hj : j = i
    · rw [if_pos hj] at h; cases h
    · by_cases hk : k = i
      · rw [if_pos hk] at h2; cases h2
      · rw [if_neg hj] at h
        rw [if_neg hk] at h2
        exact S.dj j k q h h2
def frzC : Cl → Option PyData
  | .lst ds => some (.list ds)
  | .dic _ _ => none
  | .feed _ => none
  | .tr T => trD T
  | .mul _ _ => none
theorem NewC.frz {K : PySem.W.Frag} {G : Gh} {H H' : Hp} {σ : St} {Γ : List Sl} {c : Cl} {v : V} {d : PyData} (S : Sta K G H σ Γ) (h : NewC K (rg G true) H c v H') (hd : frzC c = some d) :
    ∃ G', Sta K G' H' σ Γ ∧ Ext G H G' H' ∧ Dn K (rg G' true) H' v d := by
  have key : ∀ p o, (∀ a, a ∉ [p] → H' a = H a) → H p = none → H' p = some o → ∃ G', Sta K G' H' σ Γ ∧ Ext G H G' H' ∧ RgLe (rg G true) (rg G' true) ∧ rg G' true p o := fun p o h1 hp ho => by
    have e : H' = upd H p o := by
      funext a
      by_cases q : a = p
      · subst q; rw [upd_same]; exact ho
      · rw [upd_ne q]; exact h1 a (by simpa using q)
    subst e
    obtain ⟨S2, e2⟩ := S.grow (grow_new (o := o) S.w hp)
    exact ⟨_, S2, e2, e2.n, upd_same⟩
  obtain ⟨fp, h1, h2, h3⟩ := h
  cases c with
  | lst ds =>
    cases hd
    obtain ⟨p, vs, rfl, rfl, g1, g2⟩ := h3
    obtain ⟨G', S', e', l, q⟩ := key p _ h1 (h2 p (by simp)).1 g1
    exact ⟨G', S', e', .lst (.inl q) (g2.mono l (TupLe.rf _))⟩
  | dic t kvs => cases hd
  | feed f => cases hd
  | tr T =>
    have hin : ∀ a ∈ fp, H a = none := fun a ha => (h2 a ha).1
    let N' : Hp := fun a => if a ∈ fp then H' a else G.N a
    have nN : ∀ a o, G.N a = some o → a ∉ fp := fun a o e z => by
      have := (S.w.new a o e).1
      rw [hin a z] at this; cases this
    have g : Grow G H N' H' [] := by
      have k : ∀ a o, H a = some o → H' a = some o := fun a o e => by
        rw [h1 a fun z => by rw [hin a z] at e; cases e]; exact e
      refine ⟨fun a o e _ => k a o e, fun _ z => absurd z (by simp), fun a xs e => k _ _ e, fun a o e => ?_, fun a o e => ?_⟩
      · show (if a ∈ fp then H' a else G.N a) = some o
        rw [if_neg (nN a o e)]; exact e
      · have e : (if a ∈ fp then H' a else G.N a) = some o := e
        by_cases z : a ∈ fp
        · rw [if_pos z] at e; exact ⟨e, .inr (hin a z)⟩
        · rw [if_neg z] at e; exact ⟨k _ _ (S.w.new a o e).1, .inl e⟩
    obtain ⟨S2, e2⟩ := S.grow g
    refine ⟨_, S2, e2, TreOk.dn e2.n h3.1 (fun a ha o ho => ?_) d hd⟩
    show (if a ∈ fp then H' a else G.N a) = some o
    rw [if_pos ha]; exact ho
  | mul t l => cases hd
theorem Sta.freezeC {K : PySem.W.Frag} {G : Gh} {H : Hp} {σ : St} {Γ : List Sl} {c : Cl} {d : PyData} (s : Sta K G H σ Γ) (i : Nat) (hi : Γ[i]? = some (.own c)) (hd : frzC c = some d) : ∃ G', Sta K G' H σ (Γ.set i (.dat true d)) ∧ Ext G H G' H := by
  obtain ⟨v, H', h1, S1, e1, n⟩ := s.releaseC i hi
  obtain ⟨G', S2, e2, d2⟩ := n.frz S1 hd
  have S3 := S2.put i d2
  have hs : σ.set i (some v) = σ := by
    apply List.ext_getElem?
    intro j
    by_cases hj : j = i
    · subst hj
      have hl : j < σ.length := (List.getElem?_eq_some_iff.mp h1).1
      rw [List.getElem?_set_self hl, h1]
    · rw [List.getElem?_set_ne (Ne.symm hj)]
  rw [hs, List.set_set] at S3
  exact ⟨G', S3, ⟨e2.h0, e2.p, e2.i, e2.e, e2.n, e2.nn, TupLe.rf _, S3.w⟩⟩
abbrev DC := List Sl → R (Cl × List Sl)
inductive Rs where
  | d (x : PyData)
  | c (x : Cl)
inductive Fw where
  | nx
  | bk
  | ct
  | rt (r : Rs)
abbrev DS := List Sl → R (Fw × List Sl)
def rdC (X : Cx) (W : WX) (Γ : List Sl) (m : R (Cl × List Sl)) : TE := fun σ H Q => ∃ G, Sta X.K G H σ Γ ∧ Pst X W G H σ m fun r G' H' => ∀ v H2, Sta X.K G' H' σ r.2 → NewC X.K (rg G' true) H' r.1 v H2 → Q v H2
def CC (X : Cx) (W : WX) (e : Expr) (f : DC) : Prop := ∀ Γ, PE X e (rdC X W Γ (f Γ))
def FinU (K : PySem.W.Frag) (G : Gh) (H : Hp) (D : Ends) (Γ : List Sl) : Fw → Prop
  | .nx => ∀ σ, Sta K G H σ Γ → D.nx σ H
  | .bk => ∀ σ, Sta K G H σ Γ → D.bk σ H
  | .ct => ∀ σ, Sta K G H σ Γ → D.ct σ H
  | .rt (.d x) => ∀ σ v, Sta K G H σ Γ → Dn K (rg G true) H v x → D.rt v H
  | .rt (.c c) => ∀ σ v H2, Sta K G H σ Γ → NewC K (rg G true) H c v H2 → D.rt v H2
def rdB (X : Cx) (W : WX) (Γ : List Sl) (m : R (Fw × List Sl)) : TS := fun D σ H => ∃ G, Sta X.K G H σ Γ ∧ Pst X W G H σ m fun z G' H' => FinU X.K G' H' D z.2 z.1
def C1 (X : Cx) (W : WX) (s : Stmt) (f : DS) : Prop := ∀ Γ, PS X s (rdB X W Γ (f Γ))
def CS (X : Cx) (W : WX) (ss : List Stmt) (f : DS) : Prop := ∀ Γ, PSs X ss (rdB X W Γ (f Γ))
theorem ps_imp {X : Cx} {s : Stmt} {t t' : TS} (h : PS X s t) (k : ∀ D σ H, t' D σ H → t D σ H) : PS X s t' := ⟨fun pins s σ H D I z => h.run pins s σ H D I (k D σ H z)⟩
theorem pss_imp {X : Cx} {s : List Stmt} {t t' : TS} (h : PSs X s t) (k : ∀ D σ H, t' D σ H → t D σ H) : PSs X s t' := ⟨fun pins s σ H D I z => h.run pins s σ H D I (k D σ H z)⟩
theorem pss_any {X : Cx} {s : List Stmt} {α : Type} {t : α → TS} (h : ∀ x, PSs X s (t x)) : PSs X s (fun D σ H => ∃ x, t x D σ H) := ⟨fun pins s σ H D I ⟨x, z⟩ => (h x).run pins s σ H D I z⟩
def wipeG (Γ : List Sl) : List Nat → List Sl
  | [] => Γ
  | i :: is => (wipeG Γ is).set i .un
theorem Sta.wipe {K : PySem.W.Frag} {G : Gh} {H : Hp} {σ : St} {Γ : List Sl} (s : Sta K G H σ Γ) : ∀ is : List Nat, Sta K G H σ (wipeG Γ is)
  | [] => s
  | i :: is => (Sta.wipe s is).forget i
theorem pg_imp {X : Cx} {tg : Expr} {t t' : TG} (h : PG X tg t) (k : ∀ v σ H Q, t' v σ H Q → t v σ H Q) : PG X tg t' := ⟨fun pins s σ H v u Q I r z => h.run pins s σ H v u Q I r (k v σ H Q z)⟩
structure ItD (K : PySem.W.Frag) (G : Gh) (H : Hp) (J : It) (ds : List PyData) (fr : Bool) : Prop where
  go : ∀ i G2 H2, i < ds.length → Le G H G2 H2 → J.go i H2
  yl : ∀ i G2 H2 σ Γ v H3, i < ds.length → Le G H G2 H2 → Sta K G2 H2 σ Γ → J.yld i H2 v H3 → ∃ G3 d, ds[i]? = some d ∧ Ext G2 H2 G3 H3 ∧ Sta K G3 H3 σ Γ ∧ Dn K (rg G3 fr) H3 v d
  st : ∀ G2 H2, Le G H G2 H2 → J.stop ds.length H2
theorem pi_imp {X : Cx} {tg it : Expr} {t t' : TI} (h : PI X tg it t) (k : ∀ σ H Q, t' σ H Q → t σ H Q) : PI X tg it t' := ⟨fun pins s σ H Q I z => h.run pins s σ H Q I (k σ H Q z)⟩
theorem Cf0.pg {X : Cx} {W : WX} {sc : Scope} {N : List Str} (C : Cf0 X W sc N) {i : Nat} {x : Str} {p : Pos} (hN : N[i]? = some x) (hv : Sto X sc x) : PG X (.Name x p) (gName i) :=
  pg_name (by rw [C.hN]; exact C.nd) (by rw [C.hN]; exact hN) (by rw [C.hsc]; exact hv.1) (by rw [C.hsc]; exact hv.2)
end PD
set_option Elab.async false
set_option linter.all false
set_option maxRecDepth 100000
set_option maxHeartbeats 4000000
set_option autoImplicit false
namespace PD
open PySem L2
section
variable {X : Cx} {W : WX} {sc : Scope} {N : List Str} {e : Expr} {ss rest : List Stmt} {s : Stmt} {pos : Pos} {f g : DS}
def nL (n : DN) : DC := fun Γ => (n Γ).bind fun z => .val (.lst z.1, z.2)
theorem cc_l {n : DN} (h : CN X W e n) : CC X W e (nL n) := fun Γ => pe_imp (h Γ) fun σ H Q ⟨G, S, p⟩ => ⟨G, S, (Pst.bind p).imp fun z G1 H1 e1 p1 q vs S1 hq hd => p1 G1 H1 (Ext.rf S1.w) _ _ S1 (newc_lst hq hd)⟩
def bNil : DS := fun Γ => .val (.nx, Γ)
def bSeq (f g : DS) : DS := fun Γ => (f Γ).bind fun z => match z.1 with
  | .nx => g z.2
  | w => .val (w, z.2)
theorem cs_nil : CS X W [] bNil := fun Γ => pss_imp pss_nil fun D σ H ⟨G, S, p⟩ => p G H (Ext.rf S.w) σ S
theorem cs_cons (hs : C1 X W s f) (hr : CS X W rest g) : CS X W (s :: rest) (bSeq f g) := fun Γ =>
  pss_imp (pss_cons (hs Γ) (pss_any fun Γ1 => hr Γ1)) fun D σ H ⟨G, S, p⟩ => ⟨G, S, (Pst.bind p).imp fun z G1 H1 e1 p1 => by
    obtain ⟨w, Γ1⟩ := z
    cases w with
    | nx => exact fun σ1 S1 => ⟨Γ1, G1, S1, p1⟩
    | bk => exact p1 G1 H1 (Ext.rf e1.w)
    | ct => exact p1 G1 H1 (Ext.rf e1.w)
    | rt r =>
      have q : FinU X.K G1 H1 D Γ1 (.rt r) := p1 G1 H1 (Ext.rf e1.w)
      cases r with
      | d x => exact q
      | c x => exact q⟩
def bFrz (i : Nat) (g : DS) : DS := fun Γ => match Γ[i]? with
  | some (.own c) => (R.ofO (frzC c)).bind fun d => g (Γ.set i (.dat true d))
  | _ => g Γ
theorem cs_frz (i : Nat) (h : CS X W ss g) : CS X W ss (bFrz i g) := fun Γ => by
  unfold bFrz
  split
  · rename_i c hc
    cases hd : frzC c with
    | none => exact pss_imp (h Γ) fun D σ H ⟨G, S, p⟩ => p.elim
    | some d =>
      exact pss_imp (h _) fun D σ H ⟨G, S, p⟩ => by
        obtain ⟨G2, S2, e2⟩ := S.freezeC i hc hd
        exact ⟨G2, S2, Pst.ext p e2⟩
  · exact h Γ
def asSl : AV → Option Sl
  | .d fr d => some (.dat fr d)
  | _ => none
def bSet (i : Nat) (e : DF) : DS := fun Γ => (e Γ).bind fun z => (R.ofO (asSl z.1)).bind fun s => .val (.nx, z.2.set i s)
theorem c1_set (C : Cf0 X W sc N) (i : Nat) {x : Str} {p' : Pos} {f : DF} (hN : N[i]? = some x) (hv : Sto X sc x) (he : CE X W e f) (hs : swapsWith e (some (.Name x p')) pos.line X.env = pure false := by rfl) : C1 X W (.Assign [.Name x p'] e pos) (bSet i f) := fun Γ => by
  have hx : Loc X.env.scope x := by rw [C.hsc]; exact hv.1
  refine ps_imp (ps_set (i := i) (by rw [C.hN]; exact C.nd) (by rw [C.hN]; exact hN) hx (he Γ) hs (by rw [C.hsc]; exact hv.2)) fun D σ H ⟨G, S, p⟩ => ⟨G, S, (Pst.bind p).imp fun z G1 H1 e1 p1 v S1 a1 => ?_⟩
  obtain ⟨y, Γ1⟩ := z
  cases y with
  | d fr d => exact p1 G1 H1 (Ext.rf S1.w) _ (S1.put i a1)
  | s j => exact p1.elim
def bSetC (i : Nat) (n : DC) : DS := fun Γ => (n Γ).bind fun z => .val (.nx, z.2.set i (.own z.1))
def bExpr (e : DF) : DS := fun Γ => (e Γ).bind fun z => .val (.nx, z.2)
theorem c1_expr {f : DF} (he : CE X W e f) (hs : swapsWith e none pos.line X.env = pure false := by rfl) : C1 X W (.Expr e pos) (bExpr f) := fun Γ =>
  ps_imp (ps_expr (he Γ) hs) fun D σ H ⟨G, S, p⟩ => ⟨G, S, (Pst.bind p).imp fun z G1 H1 e1 p1 v S1 a1 => p1 G1 H1 (Ext.rf S1.w) σ S1⟩
def bRet (e : DF) : DS := fun Γ => (e Γ).bind fun z => (frzA z).bind fun y => match y.1 with
  | .d true d => .val (.rt (.d d), y.2)
  | _ => .bad
theorem frzP {ρ : Type} {G : Gh} {H : Hp} {σ : St} {x : AV} {Γ : List Sl} {v : V} {k : AV × List Sl → R ρ} {P : ρ → Gh → Hp → Prop} (S : Sta X.K G H σ Γ) (hv : AVok X.K G H σ v x) (p : Pst X W G H σ ((frzA (x, Γ)).bind k) P) : ∃ y G', Sta X.K G' H σ y.2 ∧ Ext G H G' H ∧ AVok X.K G' H σ v y.1 ∧ Pst X W G' H σ (k y) P := by
  unfold frzA at p
  split at p
  · rename_i hz; cases hz; exact ⟨_, G, S, Ext.rf S.w, hv, p⟩
  · rename_i d Γ2 hz
    cases hz
    refine ⟨_, G, S, Ext.rf S.w, ?_, p⟩
    cases hf : flat d with
    | false => exact hv
    | true => exact Dn.free hv hf
  · rename_i i Γ2 hz
    cases hz
    split at p
    · rename_i ds hi
      obtain ⟨G2, S2, e2⟩ := S.freeze i hi
      have h2 : (Γ.set i (.dat true (.list ds)))[i]? = some (.dat true (.list ds)) := set_at (List.getElem?_eq_some_iff.mp hi).1
      obtain ⟨A2, T2⟩ := id S2
      obtain ⟨_, w, g1, g2⟩ := T2.sl i _ h2
      have hv : σ[i]? = some (some v) := hv
      rw [hv] at g1
      cases g1
      exact ⟨(.d true (.list ds), Γ.set i (.dat true (.list ds))), G2, S2, e2, g2, Pst.ext p e2⟩
    · exact p.elim
theorem c1_ret {f : DF} (he : CE X W e f) : C1 X W (.Return (some e) pos) (bRet f) := fun Γ =>
  ps_imp (ps_ret (he Γ)) fun D σ H ⟨G, S, p⟩ => ⟨G, S, (Pst.bind p).imp fun z G1 H1 e1 p1 v S1 a1 => by
    obtain ⟨x, Γ1⟩ := z
    obtain ⟨y, G2, S2, e2, a2, p2⟩ := frzP S1 a1 p1
    obtain ⟨y, Γ2⟩ := y
    simp only at p2
    split at p2
    · exact p2 G2 H1 (Ext.rf S2.w) σ v S2 a2
    · exact p2.elim⟩
def bRet0 : DS := fun Γ => .val (.rt (.d .none), Γ)
def bRetC (n : DC) : DS := fun Γ => (n Γ).bind fun z => .val (.rt (.c z.1), z.2)
theorem c1_retC {n : DC} (he : CC X W e n) : C1 X W (.Return (some e) pos) (bRetC n) := fun Γ =>
  ps_imp (ps_ret (he Γ)) fun D σ H ⟨G, S, p⟩ => ⟨G, S, (Pst.bind p).imp fun z G1 H1 e1 p1 v H2 S1 hn => p1 G1 H1 (Ext.rf S1.w) σ v H2 S1 hn⟩
def bRetO (i : Nat) : DS := fun Γ => match Γ[i]? with
  | some (.own c) => .val (.rt (.c c), Γ.set i .un)
  | _ => .bad
theorem c1_retO (C : Cf0 X W sc N) (i : Nat) {x : Str} {p' : Pos} (hN : N[i]? = some x) (hv : visB sc x = true) (hd : (x == ("__debug__" : Str)) = false := by decide +kernel) (hcd : (x == ("__classdict__" : Str)) = false := by decide +kernel) : C1 X W (.Return (some (.Name x p')) pos) (bRetO i) := fun Γ => by
  unfold bRetO
  split
  · rename_i c hc
    refine ps_imp (ps_ret (evp_slot (Γ := Γ) (W := W) C (.inl hc) hN hv hd hcd)) fun D σ H ⟨G, S, p⟩ => ⟨G, S, fun G1 H1 e1 v S1 a1 => ?_⟩
    obtain ⟨w, H2, h1, S2, e2, n2⟩ := S1.releaseC i hc
    have a1 : σ[i]? = some (some v) := a1
    rw [h1] at a1
    cases a1
    exact p G1 H2 (e1.tr e2) σ v H1 S2 n2
  · exact ⟨fun pins s σ H D I ⟨G, S, p⟩ => p.elim⟩
def bIf (c : DT) (f g : DS) : DS := fun Γ => (c Γ).bind fun x => if x.1 then f x.2 else g x.2
theorem c1_if {c : Expr} {a b : List Stmt} {t : DT} (hc : CT X W c t) (ha : CS X W a f) (hb : CS X W b g) : C1 X W (.If c a b pos) (bIf t f g) := fun Γ =>
  ps_imp (ps_if (hc Γ) (pss_any fun Γ1 => ha Γ1) (pss_any fun Γ1 => hb Γ1)) fun D σ H ⟨G, S, p⟩ => ⟨G, S, (Pst.bind p).imp fun z G1 H1 e1 p1 S1 => by
    obtain ⟨z, Γ1⟩ := z
    cases z with
    | true => exact itT ⟨Γ1, G1, S1, p1⟩
    | false => exact itF ⟨Γ1, G1, S1, p1⟩⟩
abbrev DG := Bool → PyData → List Sl → Option (List Sl)
def CG (X : Cx) (tg : Expr) (ts : List Nat) (g : DG) : Prop :=
  PG X tg (fun v σ H Q => ∃ G Γ fr d Γ', Sta X.K G H σ Γ ∧ Dn X.K (rg G fr) H v d ∧ g fr d Γ = some Γ' ∧ ∀ σ', σ'.length = σ.length → (∀ j, j ∉ ts → σ'[j]? = σ[j]?) → Sta X.K G H σ' Γ' → Q σ' H)
def gN (i : Nat) : DG := fun fr d Γ => some (Γ.set i (.dat fr d))
theorem cg_name (C : Cf0 X W sc N) (i : Nat) {x : Str} {p : Pos} (hN : N[i]? = some x) (hv : Sto X sc x) : CG X (.Name x p) [i] (gN i) :=
  pg_imp (C.pg hN hv) fun v σ H Q ⟨G, Γ, fr, d, Γ', S, h, e, k⟩ => by
    cases e
    exact k _ (List.length_set ..) (fun j hj => List.getElem?_set_ne (Ne.symm (by simpa using hj))) (S.put i h)
def gT2 (g1 g2 : DG) : DG := fun fr d Γ => match d with
  | .tuple [a, b] => (g1 fr a Γ).bind fun Γ1 => g2 fr b Γ1
  | _ => none
theorem cg_tup2 (C : Cf X W sc N) {t1 t2 : Expr} {kk : Nat} {p : Pos} {g1 g2 : DG} {ts1 ts2 : List Nat} (h1 : CG X t1 ts1 g1) (h2 : CG X t2 ts2 g2)
    (hn : (assignEach [t1, t2] X.env).length = 2 := by rfl) (hst : (assignEach [t1, t2] X.env).findIdx? (·.1) = none := by rfl) (hs1 : (assignEach [t1, t2] X.env).map (·.2) = assign t1 X.env :: (assignEach [t2] X.env).map (·.2) := by rfl) (hs2 : (assignEach [t2] X.env).map (·.2) = assign t2 X.env :: (assignEach [] X.env).map (·.2) := by rfl) :
    CG X (.Tuple [t1, t2] kk p) (ts1 ++ ts2) (gT2 g1 g2) := by
  refine pg_imp (pg_tup (n := 2) C.calm (pgs_cons h1 (pgs_cons h2 pgs_nil hs2) hs1) hn hst) fun v σ H Q ⟨G, Γ, fr, d, Γ', S, h, e, k⟩ => ?_
  unfold gT2 at e
  split at e
  · rename_i a b
    obtain ⟨q, xs, rfl, hq, hd⟩ := dn_tuple h
    cases hd with
    | cons d1 r1 =>
      cases r1 with
      | cons d2 r2 =>
        cases r2
        cases e1 : g1 fr a Γ with
        | none => rw [e1] at e; cases e
        | some Γ1 =>
          rw [e1] at e
          exact ⟨q, _, rfl, hq, rfl, _, _, rfl, G, Γ, fr, a, Γ1, S, d1, e1, fun σ1 l1 k1 S1 => ⟨_, _, rfl, G, Γ1, fr, b, Γ', S1, d2, e, fun σ2 l2 k2 S2 => ⟨rfl, k _ (l2.trans l1) (fun j hj => (k2 j fun z => hj (by simp [z])).trans (k1 j fun z => hj (by simp [z]))) S2⟩⟩⟩
  · cases e
def bSetG (g : DG) (e : DF) : DS := fun Γ => (e Γ).bind fun z => match z.1 with
  | .d fr d => (R.ofO (g fr d z.2)).bind fun Γ1 => .val (.nx, Γ1)
  | _ => .bad
theorem c1_setG {tg : Expr} {ts : List Nat} {gg : DG} {f : DF} (hg : CG X tg ts gg) (he : CE X W e f) (hs : swapsWithSole [tg] e pos.line X.env = pure false := by rfl) (hw : swappedStores [tg] e X.env = pure none := by rfl) (h1 : (assignEach [tg] X.env).map (·.2) = [assign tg X.env] := by rfl) : C1 X W (.Assign [tg] e pos) (bSetG gg f) := fun Γ =>
  ps_imp (ps_asg (he Γ) hg hs hw h1) fun D σ H ⟨G, S, p⟩ => ⟨G, S, (Pst.bind p).imp fun z G1 H1 e1 p1 v S1 a1 => by
    obtain ⟨y, Γ1⟩ := z
    cases y with
    | s j => exact p1.elim
    | d fr d =>
      have p1 : Pst X W G1 H1 σ ((R.ofO (gg fr d Γ1)).bind fun Γ1 => (R.val (Fw.nx, Γ1))) (fun z G' H' => FinU X.K G' H' D z.2 z.1) := p1
      cases hz : gg fr d Γ1 with
      | none => rw [hz] at p1; exact p1.elim
      | some Γ2 =>
        rw [hz] at p1
        exact ⟨G1, Γ1, fr, d, Γ2, S1, a1, hz, fun σ' _ _ S' => p1 G1 H1 (Ext.rf S1.w) σ' S'⟩⟩
end
end PD
set_option Elab.async false
set_option linter.all false
set_option maxRecDepth 100000
set_option maxHeartbeats 4000000
set_option autoImplicit false
namespace PD
open PySem L2
theorem itd_list {K : PySem.W.Frag} {G : Gh} {H : Hp} {a : Addr} {xs : List V} {ds : List PyData} {fr : Bool} (h : LsR K (rg G fr) a xs) (hd : DnA K (rg G fr) H xs ds) : ItD K G H (Itl K a) ds fr := by
  have sq : ∀ G2 H2, Le G H G2 H2 → SqL K H2 a xs := fun G2 H2 e => ((h.mono (e.rgl fr)).mono (e.w.rgl fr)).sq
  have hl := hd.length
  refine ⟨fun i G2 H2 hi e => ⟨xs, xs[i], sq G2 H2 e, by simp⟩, fun i G2 H2 σ Γ v H3 hi e S y => ?_, fun G2 H2 e => ⟨xs, sq G2 H2 e, Nat.le_of_eq hl⟩⟩
  obtain ⟨rfl, hy⟩ := y
  obtain ⟨d, h1, h2⟩ := (e.dna hd).get (hy xs (sq G2 _ e))
  exact ⟨G2, d, h1, Ext.rf S.w, S, h2⟩
theorem itd_tup {K : PySem.W.Frag} {G : Gh} {H : Hp} {a : Addr} {xs : List V} {ds : List PyData} {fr : Bool} (h : H a = some (.tup xs)) (hd : DnA K (rg G fr) H xs ds) : ItD K G H (Itt K a) ds fr := by
  have sq : ∀ G2 H2, Le G H G2 H2 → SqT K H2 a xs := fun G2 H2 e => SqT.of (e.t _ _ h)
  have hl := hd.length
  refine ⟨fun i G2 H2 hi e => ⟨xs, xs[i], sq G2 H2 e, by simp⟩, fun i G2 H2 σ Γ v H3 hi e S y => ?_, fun G2 H2 e => ⟨xs, sq G2 H2 e, Nat.le_of_eq hl⟩⟩
  obtain ⟨rfl, hy⟩ := y
  obtain ⟨d, h1, h2⟩ := (e.dna hd).get (hy xs (sq G2 _ e))
  exact ⟨G2, d, h1, Ext.rf S.w, S, h2⟩
theorem itd_range {K : PySem.W.Frag} {G : Gh} {H : Hp} {lo : Int} {n : Nat} {ds : List PyData} (hd : ds = (List.range n).map fun i => PyData.int (lo + (i : Nat))) : ItD K G H (Itr lo n) ds true := by
  subst hd
  refine ⟨fun i G2 H2 hi e => by simpa [Itr] using hi, fun i G2 H2 σ Γ v H3 hi e S y => ?_, fun G2 H2 e => by simp [Itr]⟩
  obtain ⟨rfl, rfl⟩ := y
  have hi : i < n := by simpa using hi
  exact ⟨G2, .int (lo + (i : Nat)), by simp [hi], Ext.rf S.w, S, .int _⟩
def rng (lo hi : Int) : List Int := (List.range (hi - lo).toNat).map fun i => lo + (i : Nat)
def cRng (lo hi : Int) : Bool := decide (-(2 ^ 62) ≤ lo ∧ lo < 2 ^ 62 ∧ -(2 ^ 62) ≤ hi ∧ hi < 2 ^ 62)
theorem rng_ds (lo hi : Int) : (rng lo hi).map PyData.int = (List.range (hi - lo).toNat).map fun i => PyData.int (lo + (i : Nat)) := by
  unfold rng
  rw [List.map_map]
  rfl
theorem sta_pair {K : PySem.W.Frag} {G : Gh} {H : Hp} {σ : St} {Γ : List Sl} {T : Addr} {x y : V} {d1 d2 : PyData} {fr : Bool} (S : Sta K G H σ Γ) (hT : H T = none) (h1 : Dn K (rg G fr) H x d1) (h2 : Dn K (rg G fr) H y d2) :
    ∃ G3, Ext G H G3 (upd H T (.tup [x, y])) ∧ Sta K G3 (upd H T (.tup [x, y])) σ Γ ∧ Dn K (rg G3 fr) (upd H T (.tup [x, y])) (.ref T) (.tuple [d1, d2]) := by
  obtain ⟨G3, S3, e3, h3⟩ := S.newTup (ds := [d1, d2]) hT (.cons h1 (.cons h2 .nil))
  exact ⟨G3, e3, S3, h3⟩
def enumD (ds : List PyData) : List PyData := ds.mapIdx fun i d => .tuple [.int (i : Nat), d]
theorem itd_enum {K : PySem.W.Frag} {G : Gh} {H : Hp} {a : Addr} {xs : List V} {ds : List PyData} {fr : Bool} (h : LsR K (rg G fr) a xs) (hd : DnA K (rg G fr) H xs ds) : ItD K G H (Ite K a) (enumD ds) fr := by
  have sq : ∀ G2 H2, Le G H G2 H2 → SqL K H2 a xs := fun G2 H2 e => ((h.mono (e.rgl fr)).mono (e.w.rgl fr)).sq
  have hl := hd.length
  have hl2 : (enumD ds).length = xs.length := by unfold enumD; simp [hl]
  refine ⟨fun i G2 H2 hi e => ⟨xs, xs[i]'(by rw [hl2] at hi; exact hi), sq G2 H2 e, by simp⟩, fun i G2 H2 σ Γ v H3 hi e S y => ?_, fun G2 H2 e => ⟨xs, sq G2 H2 e, by rw [hl2]; exact Nat.le_refl _⟩⟩
  obtain ⟨T, x, rfl, hT, rfl, hy⟩ := y
  obtain ⟨d, h1, h2⟩ := (e.dna hd).get (hy xs (sq G2 _ e))
  obtain ⟨G3, e3, S3, h3⟩ := sta_pair S hT (.int (i : Nat)) h2
  refine ⟨G3, _, ?_, e3, S3, h3⟩
  unfold enumD
  rw [List.getElem?_mapIdx, h1]
  rfl
abbrev DI := List Sl → R ((List PyData × Bool) × List Sl)
def rdIU (X : Cx) (W : WX) (Γ : List Sl) (m : R ((List PyData × Bool) × List Sl)) : TI := fun σ H Q => ∃ G, Sta X.K G H σ Γ ∧ Pst X W G H σ m fun r G' H' => ∀ J, Sta X.K G' H' σ r.2 → ItD X.K G' H' J r.1.1 r.1.2 → Q J H'
def CI (X : Cx) (W : WX) (tg iter : Expr) (f : DI) : Prop := ∀ Γ, PI X tg iter (rdIU X W Γ (f Γ))
section
variable {X : Cx} {W : WX} {sc : Scope} {N : List Str} {e e2 tg iter : Expr} {pos p : Pos} {f g : DF} {k : DA}
theorem pi_no {t : TI} (h : ∀ σ H Q, ¬ t σ H Q) : PI X tg iter t := ⟨fun pins s σ H R I z => (h _ _ _ z).elim⟩
def seqA : AV → Option (List PyData × Bool)
  | .d fr (.list ds) => some (ds, fr)
  | .d fr (.tuple ds) => some (ds, fr)
  | _ => none
def iSeq (f : DF) : DI := fun Γ => (f Γ).bind fun z => (R.ofO (seqA z.1)).bind fun y => .val (y, z.2)
theorem ci_seq (h : CE X W e f) : CI X W tg e (iSeq f) := fun Γ => by
  have h := h Γ
  unfold iSeq
  cases hf : f Γ with
  | bad => exact pi_no fun σ H Q ⟨G, S, q⟩ => q
  | exc x =>
    rw [hf] at h
    exact pi_imp (pi_list h) fun σ H Q ⟨G, S, q⟩ => ⟨G, S, q⟩
  | val z =>
    rw [hf] at h
    obtain ⟨y, Γ1⟩ := z
    cases hy : seqA y with
    | none =>
      refine pi_no fun σ H Q ⟨G, S, q⟩ => ?_
      · have q : Pst X W G H σ ((R.ofO (seqA y)).bind fun y => R.val (y, Γ1)) (fun r G' H' => ∀ J, Sta X.K G' H' σ r.2 → ItD X.K G' H' J r.1.1 r.1.2 → Q J H') := q
        rw [hy] at q
        exact q
    | some w =>
      have key : ∀ {σ H Q}, rdIU X W Γ ((R.val (y, Γ1)).bind fun z => (R.ofO (seqA z.1)).bind fun y => .val (y, z.2)) σ H Q → ∃ G, Sta X.K G H σ Γ ∧ ∀ G' H', Ext G H G' H' → ∀ J, Sta X.K G' H' σ Γ1 → ItD X.K G' H' J w.1 w.2 → Q J H' := fun {σ H Q} ⟨G, S, q⟩ => by
        have q : Pst X W G H σ ((R.ofO (seqA y)).bind fun y => R.val (y, Γ1)) (fun r G' H' => ∀ J, Sta X.K G' H' σ r.2 → ItD X.K G' H' J r.1.1 r.1.2 → Q J H') := q
        rw [hy] at q
        exact ⟨G, S, q⟩
      unfold seqA at hy
      split at hy
      · cases hy
        refine pi_imp (pi_list h) fun σ H Q z => ?_
        obtain ⟨G, S, q⟩ := key z
        refine ⟨G, S, fun G' H' e' v S' a => ?_⟩
        obtain ⟨l, xs, rfl, h1, h2⟩ := dn_list a
        exact ⟨l, rfl, ⟨xs, (h1.mono (S'.w.rgl _)).sq⟩, q G' H' e' _ S' (itd_list h1 h2)⟩
      · cases hy
        refine pi_imp (pi_tup h) fun σ H Q z => ?_
        obtain ⟨G, S, q⟩ := key z
        refine ⟨G, S, fun G' H' e' v S' a => ?_⟩
        obtain ⟨l, xs, rfl, h1, h2⟩ := dn_tupleH a
        exact ⟨l, rfl, ⟨xs, SqT.of h1⟩, q G' H' e' _ S' (itd_tup h1 h2)⟩
      · cases hy
theorem avs_one {K : PySem.W.Frag} {G : Gh} {H : Hp} {σ : St} {vs : List V} {a : AV} (h : AVs K G H σ vs [a]) : ∃ v, vs = [v] ∧ AVok K G H σ v a := by
  cases h with
  | cons h r => cases r; exact ⟨_, rfl, h⟩
theorem avs_two {K : PySem.W.Frag} {G : Gh} {H : Hp} {σ : St} {vs : List V} {a b : AV} (h : AVs K G H σ vs [a, b]) : ∃ v u, vs = [v, u] ∧ AVok K G H σ v a ∧ AVok K G H σ u b := by
  cases h with
  | cons h r =>
    obtain ⟨u, rfl, h2⟩ := avs_one r
    exact ⟨_, u, rfl, h, h2⟩
def intA : AV → Option Int
  | .d _ (.int i) => some i
  | _ => none
theorem intA_ok {K : PySem.W.Frag} {G : Gh} {H : Hp} {σ : St} {v : V} {a : AV} {i : Int} (h : intA a = some i) (hv : AVok K G H σ v a) : v = .int i := by
  unfold intA at h
  split at h
  · cases h; exact dn_int hv
  · cases h
theorem Pst.ofO {G : Gh} {H : Hp} {σ : St} {α τ : Type} {o : Option α} {k : α → R τ} {P : τ → Gh → Hp → Prop} (h : Pst X W G H σ ((R.ofO o).bind k) P) : ∃ x, o = some x ∧ Pst X W G H σ (k x) P := by
  cases o with
  | none => exact h.elim
  | some x => exact ⟨x, rfl, h⟩
theorem Pst.req {G : Gh} {H : Hp} {σ : St} {τ : Type} {c : Bool} {m : R τ} {P : τ → Gh → Hp → Prop} (h : Pst X W G H σ ((R.req c).bind fun _ => m) P) : c = true ∧ Pst X W G H σ m P := by
  cases c with
  | false => exact h.elim
  | true => exact ⟨rfl, h⟩
theorem Pst.gq {G : Gh} {H : Hp} {σ : St} {τ : Type} {c : Bool} {a : τ} {P : τ → Gh → Hp → Prop} (w : Wf G H) (h : Pst X W G H σ (gq c a) P) : c = true ∧ P a G H := by
  obtain ⟨h1, h2⟩ := Pst.req h
  exact ⟨h1, h2 G H (Ext.rf w)⟩
def iRange1 (f : DF) : DI := fun Γ => (f Γ).bind fun z => (R.ofO (intA z.1)).bind fun j => gq (cRng 0 j) (((rng 0 j).map PyData.int, true), z.2)
theorem ci_range1 (C : Cf0 X W sc N) (hg : glB sc "range" = true) (hm : X.mg "range" = none) (ha : CE X W e f) (hst : starEach [e] X.env = [(false, eval e X.env)] := by rfl) : CI X W tg (.Call (.Name "range" p) [e] [] pos) (iRange1 f) := fun Γ =>
  pi_imp (pi_range1 (C.gl hg) hm (pa_cons (ha Γ) pa_nil (by rw [hst]; rfl)) hst) fun σ H Q ⟨G, S, q⟩ => ⟨G, S, (Pst.bind q).imp fun z G1 H1 e1 p1 v S1 av => by
    obtain ⟨j, hj, p1⟩ := Pst.ofO p1
    obtain ⟨c, p1⟩ := Pst.gq S1.w p1
    have c := of_decide_eq_true c
    exact ⟨j, by rw [intA_ok hj av], c.2.2.1, c.2.2.2, p1 _ S1 (by rw [show j.toNat = (j - 0).toNat by simp]; exact itd_range (rng_ds 0 j))⟩⟩
def iRange2 (f g : DF) : DI := fun Γ => (f Γ).bind fun z => (g z.2).bind fun y => (R.ofO (intA z.1)).bind fun i => (R.ofO (intA y.1)).bind fun j => gq (cRng i j) (((rng i j).map PyData.int, true), y.2)
end
end PD
set_option Elab.async false
set_option linter.all false
set_option maxRecDepth 100000
set_option maxHeartbeats 4000000
set_option autoImplicit false
namespace PD
open PySem L2
open Sem (wp)
theorem enumT_new {v : Value} {ob : Obj} {Z : Heap → Prop} (B : Begins v ob Z) :
    Meets (Builtin.«enumerate.__new__» ⟨[.type "enumerate", v], []⟩) (fun _ R s => Z s.heap ∧ R (.ok (.ret (.ref (s.heap.push ob).objs.size)))
      { s with heap := (s.heap.push ob).push { cls := .type "enumerate", data := .fields #[.none, .bool false, .ref s.heap.objs.size, rawInt 0, .none, .none] } }) :=
  .of_wp fun prog w A R s h => by
    obtain ⟨hp, g, d, tk, os⟩ := s
    obtain ⟨z1, z2⟩ := h
    have z3 := sub_enumerate
    have z4 : ∀ {A' : Around} {E : Value → Shared → Prop} {Q : Value → Shared → Prop}, Q (.ref hp.objs.size) ⟨hp.push ob, g, d, tk, os⟩ → wpAny (model prog w) A' (pyIter v) Q E ⟨hp, g, d, tk, os⟩ :=
      fun q => B.iter prog w _ _ ⟨hp, g, d, tk, os⟩ _ z1 q
    wp_walk using z4
    refine wpAny_stack_any fun z5 => wpAny_pure ?_
    split
    · rename_i y _ _ _ _ _
      cases (y == Value.type "enumerate") <;> (wp_walk using z4) <;> exact ⟨_, rfl, z2⟩
    · wp_walk using z4
      exact ⟨_, rfl, z2⟩
theorem enumT_call {prog : Program} {w : World} {A : Around} {E : Value → Shared → Prop} {s : Shared} {v : Value} {ob : Obj} {Z : Heap → Prop} {Q : Value → Shared → Prop} (B : Begins v ob Z) (h1 : Z s.heap)
    (h : ∀ h', IsEnum h' (s.heap.objs.size + 1) s.heap.objs.size 0 .none → h'.get? s.heap.objs.size = some ob → h'.objs.size = s.heap.objs.size + 2 →
      (∀ b o, s.heap.get? b = some o → h'.get? b = some o) → Q (.ref (s.heap.objs.size + 1)) { s with heap := h' }) :
    wpAny (model prog w) A (call (.type "enumerate") [v]) Q E s := by
  refine callType_new F.called_enumerate (by decide) (F.typeCall_enumerate_1 _) (F.newCall_enumerate_1 _) (fun z => F.args_object_init_2 z _) F.entry_enumerate_new (enumT_new B) ⟨h1, ?_⟩
  have hz : (s.heap.push ob).objs.size = s.heap.objs.size + 1 := Heap.size_push ..
  show _ ∧ _
  rw [hz]
  have he : IsEnum ((s.heap.push ob).push { cls := .type "enumerate", data := .fields #[.none, .bool false, .ref s.heap.objs.size, rawInt 0, .none, .none] }) (s.heap.objs.size + 1) s.heap.objs.size 0 .none := by
    have q := Heap.get?_push_size (s.heap.push ob) (o := { cls := .type "enumerate", data := .fields #[.none, .bool false, .ref s.heap.objs.size, rawInt 0, .none, .none] }) rfl
    rw [hz] at q
    exact q
  exact ⟨⟨_, he, rfl⟩, h _ he (Heap.get?_push_of_some _ (Heap.get?_push_size _ B.free)) (by rw [Heap.size_push, hz]) fun b o x => Heap.get?_push_of_some _ (Heap.get?_push_of_some _ x)⟩
def IteT (K : PySem.W.Frag) (a : Addr) : It :=
  ⟨fun i H => ∃ (xs : List V) (x : V), SqT K H a xs ∧ xs[i]? = some x, fun i H v H' => ∃ T x, v = .ref T ∧ H T = none ∧ H' = upd H T (.tup [.int (i : Nat), x]) ∧ ∀ xs, SqT K H a xs → xs[i]? = some x, fun i H => ∃ xs : List V, SqT K H a xs ∧ xs.length ≤ i⟩
theorem turn_enumT {P : Program} {w : World} {K : PySem.W.Frag} {elts : List Expr} {kk : Nat} {tpos : Pos} (a e it : Addr) :
    Turn P w K (.Tuple elts kk tpos) (IteT K a) [e, it] e (fun i h => (∃ old, IsEnum h e it ((i : Nat) : Int) old) ∧ h.IsTupleIter it a i ∧ e ≠ it) where
  mem := by simp
  obj := fun i h st b hb => by
    obtain ⟨⟨old, he⟩, ⟨o, ho, hc, hd⟩, _⟩ := st
    rcases (show b = e ∨ b = it by simpa using hb) with z | z <;> rw [z]
    · exact ⟨_, he, fun v q => nomatch q⟩
    · exact ⟨o, ho, fun v q => by rw [hd] at q; cases q⟩
  keep := fun i h h' st k => ⟨⟨st.1.choose, k e (by simp) _ st.1.choose_spec⟩, st.2.1.at fun o q => k it (by simp) o q, st.2.2⟩
  item := by
    intro X hP hw hK hc i pins s σ H E I hf st hg
    subst hP hw hK
    obtain ⟨⟨old, he⟩, hit, hne⟩ := st
    obtain ⟨xs, x, hq, hx⟩ := hg
    obtain ⟨its, rv, pt, hz⟩ := I.tuple hq
    have pt : s.heap.IsTuple a its.toArray := pt
    obtain ⟨u, hu, ru⟩ := rv.get hx
    have hel : e < s.heap.objs.size := Heap.lt_size he
    have hil : it < s.heap.objs.size := hit.elim fun o q => Heap.lt_size q.1
    have ha1 : a ≠ it := by
      rintro rfl
      obtain ⟨o1, q1, q2, _⟩ := hit
      obtain ⟨o2, q3, q4, _⟩ := pt
      rw [q1] at q3; cases q3
      rw [q2] at q4; exact absurd (Value.type.inj q4) (by decide)
    have ha2 : e ∉ [it, a] := by
      intro z
      rcases (show e = it ∨ e = a by simpa using z) with z | z
      · exact hne z
      · obtain ⟨o2, q3, q4, _⟩ := pt
        rw [← z, he] at q3; cases q3
        exact absurd (Value.type.inj q4) (by decide)
    have D := Draws.tuple (prog := X.prog) (w := X.w) (A := X.A.in1) (I.ok.hd hc) it a ha1 its.toArray
    refine wpAny_pyNext_enum_itemD D he ⟨hit, pt⟩ (i := i) ?_ hne ha2 fun y h' tk hy ho hit' hT hsz hk => ?_
    · have := List.getElem?_eq_some_iff.mp hu
      simpa using this.1
    obtain rfl : y = u := by
      have : its[i]? = some y := by simpa using hy
      rw [hu] at this; cases this; rfl
    refine ⟨_, rfl, wpAny_letOwnedTupleGo_enum (s := { s with heap := h', toks := tk + 1 }) ho fun h'' he' sb => ?_⟩
    have hT2 : h''.get? s.heap.objs.size = some { cls := .type "tuple", data := .seq #[.int i tk, y] } := (sb.2 _ (Nat.ne_of_gt hel)).trans hT
    have new : ObjOk X.prog X.w (upd H s.heap.objs.size (.tup [.int (i : Nat), x])) h'' s.heap.objs.size (.tup [.int (i : Nat), x]) :=
      ⟨by show 2 ≤ sizeLine; decide, [.int i tk, y], .cons ⟨_, rfl⟩ (.cons ru .nil), ⟨_, hT2, rfl, _, rfl⟩⟩
    have I1 : Inv X pins σ (upd H s.heap.objs.size (.tup [.int (i : Nat), x])) { s with heap := h'', toks := tk + 1 } :=
      I.turnedNew (ch := [e, it]) (fun b ob hb q => (sb.2 b (fun z => hb (by simp [z]))).trans (hk b ob (fun z => hb (by simp [z])) (fun z => hb (by simp [z])) q)) hf (Nat.le_refl _) new
    refine ⟨.ref s.heap.objs.size, _, I1, rfl, ⟨_, x, rfl, I.hok.fresh (Nat.le_refl _), rfl, fun ys hy => by rw [I.tuple_inj hy hq]; exact hx⟩, ⟨⟨y, ?_⟩, hit'.1.at fun o q => (sb.2 it (Ne.symm hne)).trans q, hne⟩, fun b hb => ?_⟩
    · rw [show ((i + 1 : Nat) : Int) = (i : Int) + 1 by omega]
      exact he'
    · have hb' : b < s.heap.objs.size := by
        rcases (show b = e ∨ b = it by simpa using hb) with z | z <;> rw [z] <;> assumption
      rw [upd_ne (Nat.ne_of_lt hb')]
      exact (hf b hb).1
  done := by
    intro X hP hw hK hc i pins s σ H E I hf st hg
    subst hP hw hK
    obtain ⟨⟨old, he⟩, hit, hne⟩ := st
    obtain ⟨xs, hq, hx⟩ := hg
    obtain ⟨its, rv, pt, hz⟩ := I.tuple hq
    have pt : s.heap.IsTuple a its.toArray := pt
    obtain ⟨f0, f1, f2, f3, f4, f5⟩ := hf it (by simp)
    have hl := rv.length
    have hT : s.TypeIs (.ref e) "enumerate" := ⟨_, he, rfl⟩
    unfold pyNext
    refine wpAny_bind (wpAny_attempt (wpAny_callSpecial?_slot (name := Str.ofString "__next__") hT F.slot_enumerate_next (wpAny_call_entry F.slot_enumerate_next hT F.entry_enumerate_next ?_ (F.args_enumerate_next_1 _))))
    show wpAny _ _ (PySem.field (.ref e) 2 >>= _) _ _ _
    refine wpAny_bind (wpAny_field he rfl (x := .ref it) rfl ?_)
    refine wpAny_bind (wpAny_nextOf_tuple_end (I.ok.hd hc) hit pt (by simp; omega) fun h' x eb hx' => ?_)
    obtain ⟨o, ho, hcl⟩ := hx'
    refine wpAny_bind (wpAny_isInstance (T := "StopIteration") (b := true) ⟨o, ho, hcl⟩ isSubtype_stop ?_)
    exact wpAny_pure ⟨rfl, I.turned (t' := s.toks) (fun b o hb q => eb b o hb q) f0 f1 f3 f4 f5⟩
  self := fun A i s Q E st h => let ⟨⟨_, he⟩, _⟩ := st; wpAny_pyIter_enum he h
theorem pi_enumT {X : Cx} {e : Expr} {ta : TA} {p pos tpos : Pos} {elts : List Expr} {kk : Nat} (hg : Gl X "enumerate") (hm : X.mg "enumerate" = none) (ha : PA X [e] ta) (hs : starEach [e] X.env = [(false, eval e X.env)] := by rfl) :
    PI X (.Tuple elts kk tpos) (.Call (.Name "enumerate" p) [e] [] pos) (fun σ H R => ta σ H fun vs H1 => ∃ a xs, vs = [.ref a] ∧ SqT X.K H1 a xs ∧ R (IteT X.K a) H1) := by
  refine ⟨fun pins s σ H R I h => ?_⟩
  refine PyProof.Rows.Call_ (ld_blt I hg hm (show bootBuiltins "enumerate" = some (.type "enumerate") by kernel_rfl) (PyProof.Rows.callWith_type1 (thn (ha.run pos pins s σ H _ I h) fun us s1 ⟨vs, H1, I1, r1, q1⟩ => ?_) hs rfl))
  obtain ⟨a, xs, ex, hq, q⟩ := q1
  subst ex
  cases r1 with
  | cons r rr =>
    cases rr
    cases r
    obtain ⟨its, rv, pt, hz⟩ := I1.tuple hq
    refine enumT_call (begins_tuple a its.toArray) pt fun h' he hit hsz hk => wpAny_pyIter_enum he ?_
    have I2 : Inv X pins σ H1 { s1 with heap := h' } := I1.kept (t' := s1.toks) hk
    refine ⟨s1.heap.objs.size + 1, [s1.heap.objs.size + 1, s1.heap.objs.size], _, _, H1, rfl, I2, turn_enumT a (s1.heap.objs.size + 1) s1.heap.objs.size, ⟨⟨.none, he⟩, ⟨_, hit, rfl, rfl⟩, Nat.succ_ne_self _⟩, fun b hb => ?_, q⟩
    have hle : s1.heap.objs.size ≤ b := by
      rcases (show b = s1.heap.objs.size + 1 ∨ b = s1.heap.objs.size by simpa using hb) with z | z <;> rw [z]
      · exact Nat.le_add_right _ _
      · exact Nat.le_refl _
    exact I1.fpOk hle (I1.hok.fresh hle)
theorem itd_enumT {K : PySem.W.Frag} {G : Gh} {H : Hp} {a : Addr} {xs : List V} {ds : List PyData} {fr : Bool} (h : H a = some (.tup xs)) (hd : DnA K (rg G fr) H xs ds) : ItD K G H (IteT K a) (enumD ds) fr := by
  have sq : ∀ G2 H2, Le G H G2 H2 → SqT K H2 a xs := fun G2 H2 e => SqT.of (e.t _ _ h)
  have hl := hd.length
  have hl2 : (enumD ds).length = xs.length := by unfold enumD; simp [hl]
  refine ⟨fun i G2 H2 hi e => ⟨xs, xs[i]'(by rw [hl2] at hi; exact hi), sq G2 H2 e, by simp⟩, fun i G2 H2 σ Γ v H3 hi e S y => ?_, fun G2 H2 e => ⟨xs, sq G2 H2 e, by rw [hl2]; exact Nat.le_refl _⟩⟩
  obtain ⟨T, x, rfl, hT, rfl, hy⟩ := y
  obtain ⟨d, h1, h2⟩ := (e.dna hd).get (hy xs (sq G2 _ e))
  obtain ⟨G3, e3, S3, h3⟩ := sta_pair S hT (.int (i : Nat)) h2
  refine ⟨G3, _, ?_, e3, S3, h3⟩
  unfold enumD
  rw [List.getElem?_mapIdx, h1]
  rfl
section
variable {X : Cx} {W : WX} {sc : Scope} {N : List Str} {e e2 tg iter : Expr} {pos p : Pos} {f g : DF} {k : DA}
def iEnum (f : DF) : DI := fun Γ => (f Γ).bind fun z => (R.ofO (seqA z.1)).bind fun y => .val ((enumD y.1, y.2), z.2)
theorem ci_enum (C : Cf0 X W sc N) {elts : List Expr} {kk : Nat} {tpos : Pos} (hg : glB sc "enumerate" = true) (hm : X.mg "enumerate" = none) (h : CE X W e f) (hst : starEach [e] X.env = [(false, eval e X.env)] := by rfl) : CI X W (.Tuple elts kk tpos) (.Call (.Name "enumerate" p) [e] [] pos) (iEnum f) := fun Γ => by
  have h := h Γ
  unfold iEnum
  cases hf : f Γ with
  | bad => exact pi_no fun σ H Q ⟨G, S, q⟩ => q
  | exc x =>
    rw [hf] at h
    exact pi_imp (pi_enum (C.gl hg) hm (pa_cons h pa_nil (by rw [hst]; rfl)) hst) fun σ H Q ⟨G, S, q⟩ => ⟨G, S, q⟩
  | val z =>
    rw [hf] at h
    obtain ⟨y, Γ1⟩ := z
    cases hy : seqA y with
    | none =>
      refine pi_no fun σ H Q ⟨G, S, q⟩ => ?_
      · obtain ⟨_, hq, _⟩ := Pst.ofO (show Pst X W G H σ ((R.ofO (seqA y)).bind fun y => R.val ((enumD y.1, y.2), Γ1)) _ from q)
        rw [hy] at hq
        cases hq
    | some w =>
      have key : ∀ {σ H Q}, rdIU X W Γ ((R.val (y, Γ1)).bind fun z => (R.ofO (seqA z.1)).bind fun y => .val ((enumD y.1, y.2), z.2)) σ H Q → ∃ G, Sta X.K G H σ Γ ∧ ∀ G' H', Ext G H G' H' → ∀ J, Sta X.K G' H' σ Γ1 → ItD X.K G' H' J (enumD w.1) w.2 → Q J H' := fun {σ H Q} ⟨G, S, q⟩ => by
        obtain ⟨_, hq, q⟩ := Pst.ofO (show Pst X W G H σ ((R.ofO (seqA y)).bind fun y => R.val ((enumD y.1, y.2), Γ1)) _ from q)
        rw [hy] at hq
        cases hq
        exact ⟨G, S, q⟩
      unfold seqA at hy
      split at hy
      · cases hy
        refine pi_imp (pi_enum (C.gl hg) hm (pa_cons h pa_nil (by rw [hst]; rfl)) hst) fun σ H Q z => ?_
        obtain ⟨G, S, q⟩ := key z
        refine ⟨G, S, fun G' H' e' v S' a => ?_⟩
        obtain ⟨l, xs, rfl, h1, h2⟩ := dn_list a
        exact ⟨l, xs, rfl, (h1.mono (S'.w.rgl _)).sq, q G' H' e' _ S' (itd_enum h1 h2)⟩
      · cases hy
        refine pi_imp (pi_enumT (C.gl hg) hm (pa_cons h pa_nil (by rw [hst]; rfl)) hst) fun σ H Q z => ?_
        obtain ⟨G, S, q⟩ := key z
        refine ⟨G, S, fun G' H' e' v S' a => ?_⟩
        obtain ⟨l, xs, rfl, h1, h2⟩ := dn_tupleH a
        exact ⟨l, xs, rfl, SqT.of h1, q G' H' e' _ S' (itd_enumT h1 h2)⟩
      · cases hy
def loopU (is : List Nat) (g : DG) (fr : Bool) (b : DS) : List PyData → List Sl → R (Fw × List Sl)
  | [], Γ => .val (.nx, wipeG Γ is)
  | d :: ds, Γ => (R.ofO (g fr d (wipeG Γ is))).bind fun Γ1 => (b Γ1).bind fun z => match z.1 with
    | .nx => loopU is g fr b ds z.2
    | .ct => loopU is g fr b ds z.2
    | .bk => .val (.nx, wipeG z.2 is)
    | .rt r => .val (.rt r, z.2)
def bFor (is : List Nat) (g : DG) (it : DI) (b : DS) : DS := fun Γ => (it Γ).bind fun z => loopU is g z.1.2 b z.1.1 z.2
theorem c1_for (C : Cf X W sc N) (is : List Nat) {body : List Stmt} {it : DI} {ts : List Nat} {gg : DG} {b : DS} (hi : CI X W tg iter it) (hg : CG X tg ts gg) (hb : CS X W body b) (hs : ∀ x, foldedSetIterable iter X.env x = pure x := by intro _; rfl) : C1 X W (.For tg iter body [] pos) (bFor is gg it b) := fun Γ => by
  refine ps_imp (ps_for C.pass C.calm (hi Γ) hg (pss_any fun Γ1 => hb Γ1) hs) fun D σ H ⟨G, S0, q⟩ => ⟨G, S0, (Pst.bind q).imp fun r G1 H1 e1 p1 J S1 I => ?_⟩
  obtain ⟨⟨items, fr⟩, Γ1⟩ := r
  have p1 : Pst X W G1 H1 σ (loopU is gg fr b items Γ1) fun z G' H' => FinU X.K G' H' D z.2 z.1 := p1
  have I : ItD X.K G1 H1 J items fr := I
  let P : Fw × List Sl → Gh → Hp → Prop := fun z G' H' => FinU X.K G' H' D z.2 z.1
  refine ⟨fun i m σ H => m = items.length - i ∧ i ≤ items.length ∧ ∃ G Γ2, Ext G1 H1 G H ∧ Sta X.K G H σ Γ2 ∧ Pst X W G H σ (loopU is gg fr b (items.drop i) Γ2) P, ⟨_, rfl, Nat.zero_le _, G1, Γ1, Ext.rf S1.w, S1, p1⟩, ?_⟩
  rintro i m σ2 H2 ⟨rfl, hi2, G2, Γ2, e2, S2, p2⟩
  by_cases hlt : i < items.length
  · rw [List.drop_eq_getElem_cons hlt] at p2
    unfold loopU at p2
    obtain ⟨Γ3, hg3, p3⟩ := Pst.ofO p2
    refine .inr ⟨I.go i G2 H2 hlt e2.le, fun σ' H' => ∃ G4 Γ4, Ext G1 H1 G4 H' ∧ Sta X.K G4 H' σ' Γ4 ∧ Pst X W G4 H' σ' (loopU is gg fr b (items.drop (i + 1)) Γ4) P, fun σ' H' ⟨G4, Γ4, q1, q2, q3⟩ => ⟨_, ?_, rfl, hlt, G4, Γ4, q1, q2, q3⟩, fun v H3 y => ?_⟩
    · omega
    · obtain ⟨G3, d, hd, e3, S3, dn⟩ := I.yl i G2 H2 σ2 _ v H3 hlt e2.le S2 y
      have hx : d = items[i] := by
        rw [List.getElem?_eq_getElem hlt] at hd
        exact (Option.some.inj hd).symm
      subst hx
      refine ⟨G3, wipeG Γ2 is, fr, items[i], Γ3, S3.wipe is, dn, hg3, fun σ4 _ _ S4 => ⟨Γ3, G3, S4, (Pst.bind (Pst.ext p3 e3)).imp fun z G5 H5 e5 p5 => ?_⟩⟩
      have e15 : Ext G1 H1 G5 H5 := (e2.tr e3).tr e5
      obtain ⟨w, Γ5⟩ := z
      cases w with
      | nx => exact fun σ6 S6 => ⟨G5, Γ5, e15, S6, p5⟩
      | ct => exact fun σ6 S6 => ⟨G5, Γ5, e15, S6, p5⟩
      | bk => exact fun σ6 S6 => p5 G5 H5 (Ext.rf S6.w) σ6 (S6.wipe is)
      | rt r =>
        have q : FinU X.K G5 H5 D Γ5 (.rt r) := p5 G5 H5 (Ext.rf e5.w)
        cases r with
        | d x => exact q
        | c x => exact q
  · have e : i = items.length := by omega
    subst e
    refine .inl ⟨I.st G2 H2 e2.le, ?_⟩
    rw [List.drop_length] at p2
    exact p2 G2 H2 (Ext.rf S2.w) σ2 (S2.wipe is)
end
end PD
set_option Elab.async false
set_option linter.all false
set_option maxRecDepth 100000
set_option maxHeartbeats 4000000
set_option autoImplicit false
namespace PD
open PySem L2
abbrev RN (N : Hp) : Rg := fun a o => N a = some o
def NewIn (B N H H' : Hp) : Prop := ∀ a o, N a = some o → H' a = some o ∧ (H a = none ∨ B a = some o)
inductive Ar where
  | d (x : PyData)
  | n (x : PyData)
  | c (x : Cl)
def Cl.fl (_ : Cl) : Bool := true
structure ArgsU (K : PySem.W.Frag) (H : Hp) (vs : List V) (as : List Ar) (F : Nat → List Addr) (L : List Addr) (B : Hp) : Prop where
  len : vs.length = as.length
  dat : ∀ (i : Nat) (x : PyData), as[i]? = some (Ar.d x) → ∃ v, vs[i]? = some v ∧ Dn K (fun a o => H a = some o ∧ a ∉ L) H v x
  cel : ∀ (i : Nat) (c : Cl), as[i]? = some (Ar.c c) → ∃ v, vs[i]? = some v ∧ c.ok K (RN B) H v (F i)
  emp : ∀ i : Nat, (∀ c, as[i]? ≠ some (Ar.c c)) → F i = []
  all : ∀ i p, p ∈ F i → p ∈ L
  al : ∀ p, p ∈ L → H p ≠ none
  dj : ∀ i j p, p ∈ F i → p ∈ F j → i = j
  nat : ∀ (i : Nat) (x : PyData), as[i]? = some (Ar.n x) → ∃ v, vs[i]? = some v ∧ Dn K (RN B) H v x
  bok : ∀ a o, B a = some o → H a = some o ∧ a ∉ L
structure PostU (K : PySem.W.Frag) (H : Hp) (vs : List V) (F : Nat → List Addr) (L : List Addr) (B : Hp) (H' N : Hp) (Z : List Sl) (F' : Nat → List Addr) : Prop where
  keep : ∀ a o, H a = some o → a ∉ L → H' a = some o
  pal : ∀ a, a ∈ L → H' a ≠ none
  t : TupLe H H'
  new : NewIn B N H H'
  cel : ∀ (i : Nat) (c : Cl), Z[i]? = some (Sl.io c) → ∃ v, vs[i]? = some v ∧ c.ok K (RN N) H' v (F' i)
  al : ∀ i p, p ∈ F' i → H' p ≠ none ∧ N p = none ∧ (p ∈ L ∨ H p = none)
  dj : ∀ i j p, p ∈ F' i → p ∈ F' j → i = j
def RsOk (K : PySem.W.Frag) (N H' : Hp) (Q : VK) : Rs → Prop
  | .d d => ∀ v, Dn K (RN N) H' v d → Q v H'
  | .c c => ∀ v H2, NewC K (RN N) H' c v H2 → Q v H2
def spU (K : PySem.W.Frag) (mg : Str → Option Value) (m : List Ar → R (Rs × List Sl)) : Sp := fun vs H Q E => ∃ as F L B, ArgsU K H vs as F L B ∧ match m as with
  | .bad => False
  | .exc x => ∀ H' N F' C d, PostU K H vs F L B H' N x.st F' → mg x.cls = some (.ref C) → XdOk K (RN N) H' d x.flds → E (.ref C) d H'
  | .val z => ∀ H' N F', PostU K H vs F L B H' N z.2 F' → RsOk K N H' Q z.1
def scD : PyData → Bool
  | .none => true
  | .bool _ => true
  | .int _ => true
  | .str _ => true
  | _ => false
theorem scD_flat {d : PyData} (h : scD d = true) : flat d = true := by cases d <;> first | rfl | cases h
def arS : Ar → Sl
  | .d x => .dat (scD x) x
  | .n x => .dat true x
  | .c c => .io c
def initS (n : Nat) (as : List Ar) : List Sl := as.map arS ++ List.replicate (n - as.length) .un
def cellsAt : List Ar → List Sl → Option (List Sl)
  | [], _ => some []
  | .d _ :: as, _ :: Γ => (cellsAt as Γ).map (.un :: ·)
  | .n _ :: as, _ :: Γ => (cellsAt as Γ).map (.un :: ·)
  | .c _ :: as, .io c :: Γ => (cellsAt as Γ).map (.io c :: ·)
  | _, _ => none
theorem cellsAt_get : ∀ {as : List Ar} {Γ Z : List Sl} {i : Nat} {c : Cl}, cellsAt as Γ = some Z → Z[i]? = some (.io c) → Γ[i]? = some (.io c) ∧ ∃ c0, as[i]? = some (.c c0)
  | [], Γ, Z, i, c, h, hz => by
    cases h
    simp at hz
  | .d x :: as, [], Z, i, c, h, hz => by cases h
  | .d x :: as, g :: Γ, Z, i, c, h, hz => by
    have h : (cellsAt as Γ).map (.un :: ·) = some Z := h
    cases e : cellsAt as Γ with
    | none => rw [e] at h; cases h
    | some Y =>
      rw [e] at h
      cases h
      cases i with
      | zero => simp at hz
      | succ i => exact cellsAt_get (i := i) e (by simpa using hz)
  | .n x :: as, [], Z, i, c, h, hz => by cases h
  | .n x :: as, g :: Γ, Z, i, c, h, hz => by
    have h : (cellsAt as Γ).map (.un :: ·) = some Z := h
    cases e : cellsAt as Γ with
    | none => rw [e] at h; cases h
    | some Y =>
      rw [e] at h
      cases h
      cases i with
      | zero => simp at hz
      | succ i => exact cellsAt_get (i := i) e (by simpa using hz)
  | .c x :: as, [], Z, i, c, h, hz => by cases h
  | .c x :: as, .io q :: Γ, Z, i, c, h, hz => by
    have h : (cellsAt as Γ).map (.io q :: ·) = some Z := h
    cases e : cellsAt as Γ with
    | none => rw [e] at h; cases h
    | some Y =>
      rw [e] at h
      cases h
      cases i with
      | zero => exact ⟨hz, x, rfl⟩
      | succ i => exact cellsAt_get (i := i) e (by simpa using hz)
  | .c x :: as, .un :: Γ, Z, i, c, h, hz => by cases h
  | .c x :: as, .dat _ _ :: Γ, Z, i, c, h, hz => by cases h
  | .c x :: as, .own _ :: Γ, Z, i, c, h, hz => by cases h
def fwR : Fw → Option Rs
  | .nx => some (.d .none)
  | .rt r => some r
  | _ => none
def endB (as : List Ar) : R (Fw × List Sl) → R (Rs × List Sl)
  | .bad => .bad
  | .exc x => (R.ofO (cellsAt as x.st)).bind fun Z => .exc ⟨x.cls, x.flds, Z⟩
  | .val z => (R.ofO (fwR z.1)).bind fun r => (R.ofO (cellsAt as z.2)).bind fun Z => .val (r, Z)
@[irreducible] def runB (n np : Nat) (b : DS) (as : List Ar) : R (Rs × List Sl) := (R.req (as.length == np)).bind fun _ => endB as (b (initS n as))
theorem start_get {N : List Str} {vs : List V} {i : Nat} (h : i < vs.length) : (L2.start N vs)[i]? = (vs.map some)[i]? := by
  unfold L2.start
  rw [List.getElem?_append_left (by simpa using h)]
section
variable {P : Program} {w : World} {K : PySem.W.Frag} {mg : Str → Option Value} {base : Heap} {x qual : Str} {params : Arguments} {body : List Stmt} {scope : Scope} {dvs : List V} {kws : List (Str × V)} {f : Addr} {fd : FuncData} {N ps : List Str} {k : Nat}
structure Here (X : Cx) (W : WX) (P : Program) (w : World) (K : PySem.W.Frag) (mg : Str → Option Value) (base : Heap) (scope : Scope) (N : List Str) (k : Nat) : Prop where
  cf : Cf X W scope N
  prog : X.prog = P
  w : X.w = w
  K : X.K = K
  mg : X.mg = mg
  base : X.base = base
  room : Room k X.A
  fn : ∀ x, X.fn x = true
  stk : X.stack = X.env :: X.outer
  frm : X.env.frame = some X.env.locals
theorem here_of (S : FnScope N ps scope) {cdv : Value} {A : Around} {outer : List Env} {s : Shared} {H : Hp} {E : XK} (hr : Room k (A.deeper (PyProof.Rows.envOfC qual scope s.heap.objs.size f cdv))) :
    Here (cxOf (L2N.CX P w) P w K mg base N qual scope f cdv A outer s H E) (fun cls d _ H => E cls d H) P w K mg base scope N k := by
  refine ⟨⟨⟨rfl, rfl, S.nd, L2N.takes_of rfl rfl rfl rfl, ?_, passes_of rfl, ?_⟩, rfl⟩, rfl, rfl, rfl, rfl, rfl, hr, fun x => rfl, rfl, rfl⟩
  · have := hr.un
    show (A.deeper _).units + 64 < cLine
    omega
  · have := hr.un
    show (A.deeper _).units + 150 < cLine
    omega
theorem fn_len {np nn : Nat} {b : DS} : ∀ vs H Q E, spU K mg (runB nn np b) vs H Q E → vs.length = np := fun vs H Q E ⟨as, Fp, L, B, A, h⟩ => by
  rw [A.len]
  by_cases e : as.length = np
  · exact e
  · have : (as.length == np) = false := by simpa using e
    unfold runB at h
    rw [this] at h
    exact h.elim
theorem fn_pre {b : DS} (hle : ps.length ≤ N.length) {X : Cx} (eK : X.K = K) (eM : X.mg = mg) {vs : List V} {H : Hp} {Q : VK} {E : XK} (hsp : spU K mg (runB N.length ps.length b) vs H Q E) :
    ∃ Γ, rdB X (fun cls d _ H => E cls d H) Γ (b Γ) { nx := fun _ H' => Q .non H', rt := Q } (L2.start N vs) H := by
  subst eK eM
  have hvl := fn_len vs H Q E hsp
  obtain ⟨as, Fp, L, B, AU, hq⟩ := hsp
  have hal : as.length = ps.length := AU.len.symm.trans hvl
  have hq : match endB as (b (initS N.length as)) with
    | .bad => False
    | .exc x => ∀ H' N F' C d, PostU X.K H vs Fp L B H' N x.st F' → X.mg x.cls = some (.ref C) → XdOk X.K (RN N) H' d x.flds → E (.ref C) d H'
    | .val z => ∀ H' N F', PostU X.K H vs Fp L B H' N z.2 F' → RsOk X.K N H' Q z.1 := by
    unfold runB at hq
    rw [show (as.length == ps.length) = true by simpa using hal] at hq
    exact hq
  refine ⟨initS N.length as, ?_⟩
  let cv : Nat → Option V := fun i => match as[i]? with
    | some (.c _) => vs[i]?
    | _ => none
  let G : Gh := ⟨H, L, cv, B, fun _ => none⟩
  have wf : Wf G H := ⟨fun a o h _ => h, fun a o h => ⟨(AU.bok a o h).1, trivial⟩, fun a h => AU.al a h, fun a h => AU.al a h, fun a o h => (by cases h), fun i p h => by
    have h : cv i = some (.ref p) := h
    simp only [cv] at h
    split at h
    · rename_i c hc
      obtain ⟨v, h1, h2⟩ := AU.cel i c hc
      rw [h1] at h
      cases h
      rcases Cl.root h2 with z | z
      · exact .inl (AU.all i p z)
      · exact .inr (.inr z)
    · cases h⟩
  have hg : RgLe (fun a o => H a = some o ∧ a ∉ L) (rg G false) := fun a o h => .inr h
  have st : Sta X.K G H (L2.start N vs) (initS N.length as) := by
    refine ⟨Fp, wf, ?_, fun i s h => ?_, fun i p h => ⟨AU.al p (AU.all i p h), (by cases q : B p with | none => exact q | some u => exact absurd (AU.all i p h) (AU.bok p u q).2), .inl (AU.all i p h)⟩, fun i p h => rfl, AU.dj, fun i j k ns h1 h2 => ?_⟩
    rotate_right
    · unfold initS at h2
      by_cases hj : j < as.length
      · rw [List.getElem?_append_left (by simpa using hj), List.getElem?_map] at h2
        cases ha : as[j]? with
        | none => rw [ha] at h2; cases h2
        | some y => rw [ha] at h2; cases y <;> cases h2
      · rw [List.getElem?_append_right (by simpa using hj)] at h2
        have := List.eq_of_mem_replicate (List.mem_of_getElem? h2)
        cases this
    · unfold initS L2.start
      simp [AU.len]
    · by_cases hi : i < as.length
      · have hi2 : i < vs.length := by rw [AU.len]; exact hi
        rw [start_get hi2, List.getElem?_map]
        unfold initS at h
        rw [List.getElem?_append_left (by simpa using hi), List.getElem?_map] at h
        cases ha : as[i]? with
        | none => rw [ha] at h; cases h
        | some y =>
          rw [ha] at h
          cases h
          cases y with
          | d x =>
            obtain ⟨v, h1, h2⟩ := AU.dat i x ha
            rw [h1]
            refine ⟨AU.emp i (by rw [ha]; intro c z; cases z), v, rfl, ?_⟩
            cases hx : scD x with
            | true => exact Dn.free h2 (scD_flat hx)
            | false => exact h2.mono hg (TupLe.rf _)
          | n x =>
            obtain ⟨v, h1, h2⟩ := AU.nat i x ha
            rw [h1]
            exact ⟨AU.emp i (by rw [ha]; intro c z; cases z), v, rfl, h2⟩
          | c c =>
            obtain ⟨v, h1, h2⟩ := AU.cel i c ha
            rw [h1]
            refine ⟨v, rfl, ?_, h2⟩
            show cv i = some v
            simp only [cv, ha, h1]
      · unfold initS at h
        rw [List.getElem?_append_right (by simpa using hi)] at h
        have : s = .un := List.eq_of_mem_replicate (List.mem_of_getElem? h)
        subst this
        exact AU.emp i (by rw [List.getElem?_eq_none (by omega)]; intro c z; cases z)
  have post : ∀ G' H' σ' Γ' Z, Ext G H G' H' → Sta X.K G' H' σ' Γ' → cellsAt as Γ' = some Z → ∃ F', PostU X.K H vs Fp L B H' G'.N Z F' := fun G' H' σ' Γ' Z e ⟨A', S'⟩ hz => by
    have h0 : G'.H0 = H := e.h0
    have hP : G'.P = L := e.p
    refine ⟨fun i => match Z[i]? with | some (.io _) => A' i | _ => [], fun a o h hp => e.w.keep a o (by rw [h0]; exact h) (by rw [hP]; exact hp), fun a ha => e.w.pal a (by rw [hP]; exact ha), e.t, fun a o h => ⟨(e.w.new a o h).1, (e.nn a o h).elim .inr .inl⟩, fun i c hc => ?_, fun i p hp => ?_, fun i j p hi hj => ?_⟩
    · obtain ⟨g1, c0, g2⟩ := cellsAt_get hz hc
      obtain ⟨v, q1, q2, q3⟩ := S'.sl i _ g1
      have q2 : G'.I i = some v := q2
      rw [e.i] at q2
      have q2 : cv i = some v := q2
      simp only [cv, g2] at q2
      refine ⟨v, q2, ?_⟩
      simp only [hc]
      exact q3
    · have hp : p ∈ (match Z[i]? with | some (.io _) => A' i | _ => []) := hp
      split at hp
      · rename_i c hc
        obtain ⟨q1, q2, q3⟩ := S'.al i p hp
        refine ⟨q1, q2, ?_⟩
        rw [hP, h0] at q3
        exact q3
      · cases hp
    · have hi : p ∈ (match Z[i]? with | some (.io _) => A' i | _ => []) := hi
      have hj : p ∈ (match Z[j]? with | some (.io _) => A' j | _ => []) := hj
      split at hi
      · split at hj
        · exact S'.dj i j p hi hj
        · cases hj
      · cases hi
  refine ⟨G, st, ?_⟩
  cases hm : b (initS N.length as) with
  | bad => rw [hm] at hq; exact hq
  | exc ex =>
    rw [hm] at hq
    intro G' H' σ' C d e S' g1 g2
    cases hz : cellsAt as ex.st with
    | none =>
      have hq : (match (R.ofO (cellsAt as ex.st)).bind (fun Z => (R.exc ⟨ex.cls, ex.flds, Z⟩ : R (Rs × List Sl))) with | .bad => False | .exc x => _ | .val z => _) := hq
      rw [hz] at hq
      exact hq.elim
    | some Z =>
      have hq : (match (R.ofO (cellsAt as ex.st)).bind (fun Z => (R.exc ⟨ex.cls, ex.flds, Z⟩ : R (Rs × List Sl))) with | .bad => False | .exc x => _ | .val z => _) := hq
      rw [hz] at hq
      obtain ⟨F', hp⟩ := post G' H' σ' ex.st Z e S' hz
      exact hq H' G'.N F' C d hp g1 g2
  | val r =>
    rw [hm] at hq
    intro G' H' e
    obtain ⟨w, Γ'⟩ := r
    have hq : (match (R.ofO (fwR w)).bind (fun r => (R.ofO (cellsAt as Γ')).bind fun Z => (R.val (r, Z) : R (Rs × List Sl))) with | .bad => False | .exc x => _ | .val z => _) := hq
    cases hz : cellsAt as Γ' with
    | none =>
      rw [hz] at hq
      cases hw : fwR w <;> rw [hw] at hq <;> exact hq.elim
    | some Z =>
      rw [hz] at hq
      have fin : ∀ r, fwR w = some r → ∀ σ', Sta X.K G' H' σ' Γ' → RsOk X.K G'.N H' Q r := fun r hr σ' S' => by
        rw [hr] at hq
        obtain ⟨F', hp⟩ := post G' H' σ' Γ' Z e S' hz
        exact hq H' G'.N F' hp
      cases w with
      | nx => exact fun σ' S' => fin _ rfl σ' S' .non .non
      | bk => exact hq.elim
      | ct => exact hq.elim
      | rt r =>
        cases r with
        | d x => exact fun σ' v S' hv => fin _ rfl σ' S' v hv
        | c x => exact fun σ' v H2 S' hn => fin _ rfl σ' S' v H2 hn
theorem fn_u (F : FunD K x qual params body scope dvs kws f fd) (S : FnScope N ps scope) {b : DS} (hle : ps.length ≤ N.length) (hb : ∀ X W, Here X W P w K mg base scope N k → CS X W body b) :
    FnOk P w K mg base (L2N.CX P w) (k + 1) f fd ps (spU K mg (runB N.length ps.length b)) :=
  F.ok S fn_len fun cdv A outer s H vs Q E hr hsp => by
    obtain ⟨Γ, h⟩ := fn_pre hle (X := cxOf (L2N.CX P w) P w K mg base N qual scope f cdv A outer s H E) rfl rfl hsp
    exact ⟨_, hb _ _ (here_of S hr) Γ, h⟩
end
end PD
set_option Elab.async false
set_option linter.all false
set_option maxRecDepth 100000
set_option maxHeartbeats 4000000
set_option autoImplicit false
namespace PD
open PySem L2
def Clee (X : Cx) (x : Str) (dvs : List V) (sp : Sp) : Prop :=
  ∃ (k : Nat) (f : Addr) (fd : FuncData) (ps : List Str) (ds : List Value), FnOk X.prog X.w X.K X.mg X.base (L2N.CX X.prog X.w) k f fd ps sp ∧ Room k X.A ∧ X.mg x = some (.ref f) ∧ PySem.W.keepIn X.K (.ref f) = true ∧ Binds X.K fd ps ds ∧ Vals dvs ds
def jn (N N' : Hp) : Hp := fun a => match N a with
  | some o => some o
  | none => N' a
theorem jn_left {N N' : Hp} {a : Addr} {o : HO} (h : N a = some o) : jn N N' a = some o := by unfold jn; rw [h]
theorem jn_right {N N' : Hp} {a : Addr} (h : N a = none) : jn N N' a = N' a := by unfold jn; rw [h]
theorem jn_cases {N N' : Hp} {a : Addr} {o : HO} (h : jn N N' a = some o) : N a = some o ∨ (N a = none ∧ N' a = some o) := by
  cases q : N a with
  | some u => rw [jn_left q] at h; exact .inl h
  | none => rw [jn_right q] at h; exact .inr ⟨rfl, h⟩
theorem Same.tup {H H' : Hp} (s : Same H H') : TupLe H H' := fun a xs h => s a _ h
theorem grow_call {G : Gh} {H H' N : Hp} (w : Wf G H) (s : Same H H') (n : NewIn G.N N H H') : Grow G H (jn G.N N) H' [] ∧ RgLe (RN N) (RN (jn G.N N)) := by
  refine ⟨⟨fun a o h _ => s a o h, fun _ h => absurd h (by simp), Same.tup s, fun a o h => jn_left h, fun a o h => ?_⟩, fun a o h => ?_⟩
  · rcases jn_cases h with h | ⟨h1, h2⟩
    · exact ⟨s a o (w.new a o h).1, .inl h⟩
    · exact ⟨(n a o h2).1, (n a o h2).2.elim .inr .inl⟩
  · show jn G.N N a = some o
    cases q : G.N a with
    | none => rw [jn_right q]; exact h
    | some u =>
      rcases (n a o h).2 with z | z
      · have := (w.new a u q).1
        rw [z] at this
        cases this
      · exact jn_left z
theorem call_end {K : PySem.W.Frag} {G : Gh} {H H' N' : Hp} {σ : St} {Γ : List Sl} (S : Sta K G H σ Γ) (s : Same H H') (n : NewIn G.N N' H H') :
    ∃ G', Sta K G' H' σ Γ ∧ Ext G H G' H' ∧ RgLe (RN N') (rg G' true) := by
  obtain ⟨g, l⟩ := grow_call S.w s n
  obtain ⟨S', e⟩ := S.grow g
  exact ⟨_, S', e, l⟩
def rdW (Γ : List Sl) (j : Nat) : Option PyData := match Γ[j]? with
  | some (.own (.tr T)) => trD T
  | some (.io (.tr T)) => trD T
  | _ => rdD Γ (.s j)
theorem StaA.rdW {K : PySem.W.Frag} {G : Gh} {H : Hp} {σ : St} {Γ : List Sl} {A : Nat → List Addr} {j : Nat} {x : PyData} {v : V} (S : StaA K G H σ Γ A) (h : PD.rdW Γ j = some x) (hv : σ[j]? = some (some v)) :
    Dn K (fun a o => H a = some o ∧ (G.N a = some o ∨ a ∈ A j ∨ G.E a = some o)) H v x := by
  have l : RgLe (RgN G) (fun a o => H a = some o ∧ (G.N a = some o ∨ a ∈ A j ∨ G.E a = some o)) := fun a o z => ⟨(S.w.new a o z).1, .inl z⟩
  unfold PD.rdW at h
  split at h
  · obtain ⟨u, h1, h2, h3⟩ := S.sl j _ ‹_›
    rw [hv] at h1
    cases h1
    exact TreOk.dn l h3.1 (fun a ha o ho => ⟨ho, .inr (.inl ha)⟩) x h
  · obtain ⟨u, h1, h2, h3⟩ := S.sl j _ ‹_›
    rw [hv] at h1
    cases h1
    exact TreOk.dn l h3.1 (fun a ha o ho => ⟨ho, .inr (.inl ha)⟩) x h
  · unfold rdD at h
    simp only at h
    split at h
    · cases h
      obtain ⟨u, h1, h2, p, vs, rfl, hfp, hp, hd⟩ := S.sl j _ ‹_›
      rw [hv] at h1
      cases h1
      exact .lst (.inl ⟨hp, .inr (.inl (by rw [hfp]; simp))⟩) (hd.mono l (TupLe.rf _))
    · cases h
      obtain ⟨u, h1, h2, p, vs, rfl, hfp, hp, hd⟩ := S.sl j _ ‹_›
      rw [hv] at h1
      cases h1
      exact .lst (.inl ⟨hp, .inr (.inl (by rw [hfp]; simp))⟩) (hd.mono l (TupLe.rf _))
    · cases h
      obtain ⟨_, p, o, h1, h2, h3, h4, h5, q, vs, e, _, h6, h7⟩ := S.sl j _ ‹_›
      rw [hv] at h1
      cases h1
      cases e
      rw [h3] at h6
      cases h6
      exact .lst (.inl ⟨h3, .inr (.inr h4)⟩) (h7.mono l (TupLe.rf _))
    · cases h
theorem Sta.rdW {K : PySem.W.Frag} {G : Gh} {H : Hp} {σ : St} {Γ : List Sl} {j : Nat} {x : PyData} {v : V} (S : Sta K G H σ Γ) (h : PD.rdW Γ j = some x) (hv : σ[j]? = some (some v)) : Dn K (fun a o => H a = some o ∧ a ∉ []) H v x := by
  obtain ⟨A, T⟩ := S
  exact (T.rdW h hv).mono (fun a o z => ⟨z.1, by simp⟩) (TupLe.rf _)
def rdDs (Γ : List Sl) (i : Option Nat) : List AV → Option (List PyData)
  | [] => some []
  | .d _ x :: as => (rdDs Γ i as).map (x :: ·)
  | .s j :: as => if some j = i then none else (rdW Γ j).bind fun x => (rdDs Γ i as).map (x :: ·)
theorem rdDs_ok {K : PySem.W.Frag} {G : Gh} {H : Hp} {σ : St} {Γ : List Sl} {i : Option Nat} {fp : List Addr} (S : Sta K G H σ Γ) (hr : ∀ fr a o, rg G fr a o → a ∉ fp) (hs : ∀ (j : Nat) (x : PyData) (v : V), some j ≠ i → rdW Γ j = some x → σ[j]? = some (some v) → Dn K (fun a o => H a = some o ∧ a ∉ fp) H v x) :
    ∀ {as : List AV} {ds : List PyData} {vs : List V}, rdDs Γ i as = some ds → AVs K G H σ vs as → DnA K (fun a o => H a = some o ∧ a ∉ fp) H vs ds
  | [], _, _, h, .nil => by cases h; exact .nil
  | .d fr x :: as, ds, _, h, .cons q r => by
    have h : (rdDs Γ i as).map (x :: ·) = some ds := h
    cases e : rdDs Γ i as with
    | none => rw [e] at h; cases h
    | some xs =>
      rw [e] at h
      cases h
      exact .cons (Dn.mono (fun b o z => ⟨S.w.rgl fr b o z, hr fr b o z⟩) (TupLe.rf _) q) (rdDs_ok S hr hs e r)
  | .s j :: as, ds, _, h, .cons (v := v) q r => by
    unfold rdDs at h
    split at h
    · cases h
    · rename_i hj
      cases e1 : rdW Γ j with
      | none => rw [e1] at h; cases h
      | some x =>
        rw [e1] at h
        have h : (rdDs Γ i as).map (x :: ·) = some ds := h
        cases e : rdDs Γ i as with
        | none => rw [e] at h; cases h
        | some xs =>
          rw [e] at h
          cases h
          exact .cons (hs j x v hj e1 q) (rdDs_ok S hr hs e r)
theorem dna_at {K : PySem.W.Frag} {G : Rg} {H : Hp} {vs : List V} {ds : List PyData} {i : Nat} {x : PyData} (h : DnA K G H vs ds) (hx : (ds.map Ar.d)[i]? = some (.d x)) : ∃ v, vs[i]? = some v ∧ Dn K G H v x := by
  rw [List.getElem?_map] at hx
  cases e : ds[i]? with
  | none => rw [e] at hx; cases hx
  | some y =>
    rw [e] at hx
    cases hx
    exact h.get' e
theorem argsD {K : PySem.W.Frag} {H : Hp} {vs : List V} {ds : List PyData} (h : DnA K (fun a o => H a = some o ∧ a ∉ []) H vs ds) {B : Hp} (hB : ∀ a o, B a = some o → H a = some o) : ArgsU K H vs (ds.map Ar.d) (fun _ => []) [] B where
  len := by rw [List.length_map]; exact h.length
  dat := fun i x hx => dna_at h hx
  cel := fun i c hc => by
    rw [List.getElem?_map] at hc
    cases e : ds[i]? <;> rw [e] at hc <;> cases hc
  emp := fun _ _ => rfl
  all := fun _ _ h => h
  al := fun p h => absurd h (by simp)
  dj := fun i j p h => absurd h (by simp)
  nat := fun i x hx => by
    rw [List.getElem?_map] at hx
    cases e : ds[i]? <;> rw [e] at hx <;> cases hx
  bok := fun a o h => ⟨hB a o h, by simp⟩
def R.atX {α : Type} (Γ : List Sl) : R α → R α
  | .exc x => .exc ⟨x.cls, x.flds, Γ⟩
  | m => m
section
variable {X : Cx} {W : WX} {sc : Scope} {N : List Str} {x : Str} {e : Expr} {es : List Expr} {p pos : Pos} {k : DA} {dvs : List V} {dds : List PyData} {m : List Ar → R (Rs × List Sl)}
theorem callD_core {Γ : List Sl} {G : Gh} {H : Hp} {σ : St} {as : List AV} {ds : List PyData} {vs : List V} {Q : VK} (hdv : ∀ G H, DnA X.K G H dvs dds) (S : Sta X.K G H σ Γ) (av : AVs X.K G H σ vs as) (hd : rdDs Γ none as = some ds)
    (hp : Pst X W G H σ ((m ((ds ++ dds).map Ar.d)).atX Γ) fun z G' H' => Sta X.K G' H' σ Γ → RsOk X.K G'.N H' Q z.1) : spU X.K X.mg m (vs ++ dvs) H Q (fun cls d H => W cls d σ H) := by
  have h1 : DnA X.K (fun a o => H a = some o ∧ a ∉ []) H vs ds := rdDs_ok (i := none) (fp := []) S (fun _ _ _ _ => by simp) (fun _ _ _ _ hr hv => S.rdW hr hv) hd av
  refine ⟨_, _, _, G.N, argsD (h1.append (hdv _ _)) (fun a o h => (S.w.new a o h).1), ?_⟩
  cases hm : m ((ds ++ dds).map Ar.d) with
  | bad => rw [hm] at hp; exact hp
  | exc y =>
    rw [hm] at hp
    intro H' N' F' C d P g1 g2
    obtain ⟨G', S', e', l⟩ := call_end S (fun a o h => P.keep a o h (by simp)) P.new
    refine hp G' H' σ C d e' S' g1 ?_
    rcases g2 with ⟨a, fs, q1, q2, q3, q4⟩ | q
    · exact .inl ⟨a, fs, q1, l _ _ q2, q3, q4.mono l (TupLe.rf _)⟩
    · exact .inr q
  | val z =>
    rw [hm] at hp
    intro H' N' F' P
    obtain ⟨G', S', e', l⟩ := call_end S (fun a o h => P.keep a o h (by simp)) P.new
    have q := hp G' H' e' S'
    cases hz : z.1 with
    | d y => rw [hz] at q; exact fun v hv => q v (hv.mono l (TupLe.rf _))
    | c y => rw [hz] at q; exact fun v H2 ⟨fp, n1, n2, n3⟩ => q v H2 ⟨fp, n1, n2, Cl.mono n3 l (fun _ _ => rfl) (TupLe.rf _)⟩
end
end PD
set_option Elab.async false
set_option linter.all false
set_option maxRecDepth 100000
set_option maxHeartbeats 4000000
set_option autoImplicit false
namespace PD
open PySem L2
theorem Sta.cellU {K : PySem.W.Frag} {G : Gh} {H : Hp} {σ : St} {Γ : List Sl} {c : Cl} (S : Sta K G H σ Γ) (i : Nat) (io : Bool) (hi : Γ[i]? = some (if io then .io c else .own c)) :
    ∃ v fp, σ[i]? = some (some v) ∧ c.ok K (RgN G) H v fp ∧ (∀ p ∈ fp, H p ≠ none) ∧ (∀ fr a o, rg G fr a o → a ∉ fp) ∧ (∀ (j : Nat) (x : PyData) (u : V), j ≠ i → PD.rdW Γ j = some x → σ[j]? = some (some u) → Dn K (fun a o => H a = some o ∧ a ∉ fp) H u x) ∧
      ∀ H' N' fp' c', (∀ a o, H a = some o → a ∉ fp → H' a = some o) → (∀ a ∈ fp, H' a ≠ none) → TupLe H H' → NewIn G.N N' H H' → c'.ok K (RN N') H' v fp' → (∀ p ∈ fp', H' p ≠ none ∧ N' p = none ∧ (p ∈ fp ∨ H p = none)) →
        ∃ G', Sta K G' H' σ (Γ.set i (if io then .io c' else .own c')) ∧ Ext G H G' H' ∧ RgLe (RN N') (rg G' true) := by
  obtain ⟨A, S⟩ := S
  have key : ∃ v, σ[i]? = some (some v) ∧ c.ok K (RgN G) H v (A i) ∧ (io = true → G.I i = some v) ∧ (io = false → ∀ p ∈ A i, G.H0 p = none) := by
    cases io with
    | true =>
      obtain ⟨v, h1, h2, h3⟩ := S.sl i _ hi
      exact ⟨v, h1, h3, fun _ => h2, fun h => by cases h⟩
    | false =>
      obtain ⟨v, h1, h2, h3⟩ := S.sl i _ hi
      exact ⟨v, h1, h3, fun h => absurd h (by simp), fun _ => h2⟩
  obtain ⟨v, h1, h2, h3, h4⟩ := key
  refine ⟨v, A i, h1, h2, fun p hp => (S.al i p hp).1, fun fr a o h hp => ?_, fun j x u hj hr hu => ?_, fun H' N' fp' c' k1 k2 t n ok f => ?_⟩
  · obtain ⟨_, q1, q2⟩ := S.al i a hp
    cases fr with
    | true =>
      have h : G.N a = some o := h
      rw [q1] at h; cases h
    | false =>
      rcases h with h | ⟨h, h'⟩
      · rw [q1] at h; cases h
      · rcases q2 with q2 | q2
        · exact h' q2
        · rw [q2] at h; cases h
  · refine (S.rdW hr hu).mono (fun a o z => ⟨z.1, fun hp => ?_⟩) (TupLe.rf _)
    rcases z.2 with z | z | z
    · rw [(S.al i a hp).2.1] at z; cases z
    · exact hj (S.dj j i a z hp)
    · rw [S.ae i a hp] at z; cases z
  · have g : Grow G H (jn G.N N') H' (A i) := by
      refine ⟨k1, k2, t, fun a o h => jn_left h, fun a o h => ?_⟩
      rcases jn_cases h with h | ⟨_, h⟩
      · refine ⟨k1 a o (S.w.new a o h).1 fun hp => ?_, .inl h⟩
        rw [(S.al i a hp).2.1] at h; cases h
      · exact ⟨(n a o h).1, (n a o h).2.elim .inr .inl⟩
    have l : RgLe (RN N') (RN (jn G.N N')) := fun a o h => by
      show jn G.N N' a = some o
      cases q : G.N a with
      | none => rw [jn_right q]; exact h
      | some u =>
        rcases (n a o h).2 with z | z
        · have := (S.w.new a u q).1
          rw [z] at this
          cases this
        · exact jn_left z
    have f2 : ∀ p ∈ fp', H' p ≠ none ∧ jn G.N N' p = none ∧ (p ∈ A i ∨ H p = none) := fun p hp => by
      obtain ⟨q1, q2, q3⟩ := f p hp
      refine ⟨q1, ?_, q3⟩
      have : G.N p = none := by
        rcases q3 with q3 | q3
        · exact (S.al i p q3).2.1
        · exact (S.w.fresh q3).1
      rw [jn_right this]
      exact q2
    obtain ⟨S', e⟩ := S.step (i := i) (fp' := fp') (s' := if io then .io c' else .own c') (σ' := σ) g (fun p hp => hp) (fun j hj => rfl) rfl (fun hlt => by
      cases io with
      | true => exact ⟨v, h1, h3 rfl, Cl.mono ok l (fun _ _ => rfl) (TupLe.rf _)⟩
      | false =>
        refine ⟨v, h1, fun p hp => ?_, Cl.mono ok l (fun _ _ => rfl) (TupLe.rf _)⟩
        rcases (f p hp).2.2 with q | q
        · exact h4 rfl p q
        · exact (S.w.fresh q).2.1) f2
    exact ⟨_, S', e, l⟩
def cellAt (Γ : List Sl) (i : Nat) : Option (Bool × Cl) := match Γ[i]? with
  | some (.own c) => some (false, c)
  | some (.io c) => some (true, c)
  | _ => none
theorem cellAt_ok {Γ : List Sl} {i : Nat} {z : Bool × Cl} (h : cellAt Γ i = some z) : Γ[i]? = some (if z.1 then .io z.2 else .own z.2) := by
  unfold cellAt at h
  split at h
  · cases h; exact ‹_›
  · cases h; exact ‹_›
  · cases h
def pickC (n : Nat) (as : List AV) : Option Nat := match as[n]? with
  | some (.s i) => some i
  | _ => none
def insC (n : Nat) (c : Cl) (ds : List PyData) : List Ar := (ds.take n).map Ar.d ++ .c c :: (ds.drop n).map Ar.d
def ioAt (n : Nat) (Z : List Sl) : Option Cl := match Z[n]? with
  | some (.io c) => some c
  | _ => none
theorem ioAt_ok {n : Nat} {Z : List Sl} {c : Cl} (h : ioAt n Z = some c) : Z[n]? = some (.io c) := by
  unfold ioAt at h
  split at h
  · cases h; exact ‹_›
  · cases h
def R.atC (n : Nat) (Γ : List Sl) (i : Nat) (io : Bool) : R (Rs × List Sl) → R (Rs × List Sl)
  | .bad => .bad
  | .exc x => (R.ofO (ioAt n x.st)).bind fun c => .exc ⟨x.cls, x.flds, Γ.set i (mkS io c)⟩
  | .val z => (R.ofO (ioAt n z.2)).bind fun c => .val (z.1, Γ.set i (mkS io c))
theorem avs_erase {K : PySem.W.Frag} {G : Gh} {H : Hp} {σ : St} : ∀ {n i : Nat} {as : List AV} {vs : List V}, AVs K G H σ vs as → as[n]? = some (.s i) → ∃ v v1 v2, vs = v1 ++ v :: v2 ∧ v1.length = n ∧ σ[i]? = some (some v) ∧ AVs K G H σ (v1 ++ v2) (as.eraseIdx n)
  | 0, i, _, _, .cons (v := v) (vs := vs) h r, e => by
    cases e
    exact ⟨v, [], vs, rfl, rfl, h, r⟩
  | n + 1, i, _, _, .cons (v := u) h r, e => by
    obtain ⟨v, v1, v2, rfl, h1, h2, h3⟩ := avs_erase (n := n) r (by simpa using e)
    exact ⟨v, u :: v1, v2, rfl, by simp [h1], h2, .cons h h3⟩
  | _, _, _, _, .nil, e => by simp at e
theorem dna_split {K : PySem.W.Frag} {G : Rg} {H : Hp} : ∀ {v1 v2 : List V} {ds : List PyData}, DnA K G H (v1 ++ v2) ds → DnA K G H v1 (ds.take v1.length) ∧ DnA K G H v2 (ds.drop v1.length)
  | [], v2, ds, h => ⟨.nil, h⟩
  | v :: v1, v2, _, .cons h r => by
    obtain ⟨q1, q2⟩ := dna_split (v1 := v1) r
    exact ⟨.cons h q1, q2⟩
theorem argsC {K : PySem.W.Frag} {H : Hp} {v1 v2 : List V} {v : V} {ds : List PyData} {c : Cl} {fp : List Addr} (h : DnA K (fun a o => H a = some o ∧ a ∉ fp) H (v1 ++ v2) ds) {B : Hp} (hc : c.ok K (RN B) H v fp) (al : ∀ p ∈ fp, H p ≠ none) (hB : ∀ a o, B a = some o → H a = some o ∧ a ∉ fp) :
    ArgsU K H (v1 ++ v :: v2) (insC v1.length c ds) (fun i => if i = v1.length then fp else []) fp B := by
  obtain ⟨h1, h2⟩ := dna_split h
  have l1 := h1.length
  have l2 := h2.length
  have e1 : ((ds.take v1.length).map Ar.d).length = v1.length := by rw [List.length_map]; exact l1.symm
  refine ⟨?_, fun i x hx => ?_, fun i c' hc' => ?_, fun i hi => ?_, fun i p hp => ?_, al, fun i j p hi hj => ?_, fun i x hx => ?_, hB⟩
  · unfold insC
    rw [List.length_append, List.length_append, List.length_cons, List.length_cons, e1, List.length_map, ← l2]
  · unfold insC at hx
    by_cases hlt : i < v1.length
    · rw [List.getElem?_append_left (by rw [e1]; exact hlt)] at hx
      rw [List.getElem?_append_left hlt]
      exact dna_at h1 hx
    · rw [List.getElem?_append_right (by rw [e1]; omega), e1] at hx
      rw [List.getElem?_append_right (by omega)]
      cases hk : i - v1.length with
      | zero => rw [hk] at hx; cases hx
      | succ q =>
        rw [hk, List.getElem?_cons_succ] at hx
        rw [List.getElem?_cons_succ]
        exact dna_at h2 hx
  · unfold insC at hc'
    by_cases hlt : i < v1.length
    · rw [List.getElem?_append_left (by rw [e1]; exact hlt), List.getElem?_map] at hc'
      cases e : (ds.take v1.length)[i]? <;> rw [e] at hc' <;> cases hc'
    · rw [List.getElem?_append_right (by rw [e1]; omega), e1] at hc'
      cases hk : i - v1.length with
      | zero =>
        rw [hk] at hc'
        cases hc'
        have : i = v1.length := by omega
        subst this
        exact ⟨v, by simp, by rw [if_pos rfl]; exact hc⟩
      | succ q =>
        rw [hk, List.getElem?_cons_succ, List.getElem?_map] at hc'
        cases e : (ds.drop v1.length)[q]? <;> rw [e] at hc' <;> cases hc'
  · by_cases e : i = v1.length
    · subst e
      refine absurd ?_ (hi c)
      unfold insC
      rw [List.getElem?_append_right (by rw [e1]; exact Nat.le_refl _), e1, Nat.sub_self]
      rfl
    · exact if_neg e
  · by_cases e : i = v1.length
    · rw [if_pos e] at hp; exact hp
    · rw [if_neg e] at hp; cases hp
  · by_cases e : i = v1.length
    · by_cases e' : j = v1.length
      · rw [e, e']
      · rw [if_neg e'] at hj; cases hj
    · rw [if_neg e] at hi; cases hi
  · unfold insC at hx
    by_cases hlt : i < v1.length
    · rw [List.getElem?_append_left (by rw [e1]; exact hlt), List.getElem?_map] at hx
      cases e : (ds.take v1.length)[i]? <;> rw [e] at hx <;> cases hx
    · rw [List.getElem?_append_right (by rw [e1]; omega), e1] at hx
      cases hk : i - v1.length with
      | zero => rw [hk] at hx; cases hx
      | succ q =>
        rw [hk, List.getElem?_cons_succ, List.getElem?_map] at hx
        cases e : (ds.drop v1.length)[q]? <;> rw [e] at hx <;> cases hx
section
variable {X : Cx} {W : WX} {sc : Scope} {N : List Str} {x : Str} {e : Expr} {es : List Expr} {p pos : Pos} {k : DA} {dvs : List V} {dds : List PyData} {m : List Ar → R (Rs × List Sl)}
theorem callC_core {Γ : List Sl} {G : Gh} {H : Hp} {σ : St} {as : List AV} {ds : List PyData} {vs : List V} {Q : VK} {n i : Nat} {ic : Bool × Cl} (hdv : ∀ G H, DnA X.K G H dvs dds) (S : Sta X.K G H σ Γ) (av : AVs X.K G H σ vs as) (hn : pickC n as = some i) (hc : cellAt Γ i = some ic) (hd : rdDs Γ (some i) (as.eraseIdx n) = some ds) (hfl : ic.2.fl = true)
    (hp : Pst X W G H σ ((m (insC n ic.2 (ds ++ dds))).atC n Γ i ic.1) fun z G' H' => Sta X.K G' H' σ z.2 → RsOk X.K G'.N H' Q z.1) : spU X.K X.mg m (vs ++ dvs) H Q (fun cls d H => W cls d σ H) := by
  have hn' : as[n]? = some (.s i) := by
    unfold pickC at hn
    split at hn
    · cases hn; exact ‹_›
    · cases hn
  obtain ⟨v, v1, v2, rfl, hv1, hv, av2⟩ := avs_erase av hn'
  obtain ⟨v', fp, g1, g2, g3, g4, g5, g6⟩ := S.cellU i ic.1 (cellAt_ok hc)
  rw [hv] at g1
  cases g1
  have h1 : DnA X.K (fun a o => H a = some o ∧ a ∉ fp) H (v1 ++ v2) ds := rdDs_ok (i := some i) (fp := fp) S g4 (fun j x u hj hr hu => g5 j x u (fun z => hj (by rw [z])) hr hu) hd av2
  have h2 : DnA X.K (fun a o => H a = some o ∧ a ∉ fp) H (v1 ++ (v2 ++ dvs)) (ds ++ dds) := by
    rw [← List.append_assoc]
    exact h1.append (hdv _ _)
  subst hv1
  refine ⟨_, _, _, G.N, by rw [List.append_assoc, List.cons_append]; exact argsC h2 g2 g3 (fun a o h => ⟨(S.w.new a o h).1, g4 true a o h⟩), ?_⟩
  have key : ∀ H' N' F' Z c', PostU X.K H (v1 ++ v :: v2 ++ dvs) (fun i => if i = v1.length then fp else []) fp G.N H' N' Z F' → ioAt v1.length Z = some c' → ∃ G', Sta X.K G' H' σ (Γ.set i (mkS ic.1 c')) ∧ Ext G H G' H' ∧ RgLe (RN N') (rg G' true) := fun H' N' F' Z c' P hz => by
    obtain ⟨u, q1, q2⟩ := P.cel _ _ (ioAt_ok hz)
    have : u = v := by
      rw [List.append_assoc, List.getElem?_append_right (Nat.le_refl _), Nat.sub_self] at q1
      exact (Option.some.inj q1).symm
    subst this
    exact g6 H' N' (F' v1.length) c' P.keep P.pal P.t P.new q2 fun p hp => P.al _ p hp
  cases hm : m (insC v1.length ic.2 (ds ++ dds)) with
  | bad => rw [hm] at hp; exact hp
  | exc y =>
    rw [hm] at hp
    intro H' N' F' C d P k1 k2
    obtain ⟨c', hz, hp⟩ := Pst.ofO (show Pst X W G H σ ((R.ofO (ioAt v1.length y.st)).bind fun c => .exc ⟨y.cls, y.flds, Γ.set i (mkS ic.1 c)⟩) _ from hp)
    obtain ⟨G', S', e', l⟩ := key H' N' F' y.st c' P hz
    refine hp G' H' σ C d e' S' k1 ?_
    rcases k2 with ⟨a, fs, q1, q2, q3, q4⟩ | q
    · exact .inl ⟨a, fs, q1, l _ _ q2, q3, q4.mono l (TupLe.rf _)⟩
    · exact .inr q
  | val z =>
    rw [hm] at hp
    intro H' N' F' P
    obtain ⟨c', hz, hp⟩ := Pst.ofO (show Pst X W G H σ ((R.ofO (ioAt v1.length z.2)).bind fun c => .val (z.1, Γ.set i (mkS ic.1 c))) _ from hp)
    obtain ⟨G', S', e', l⟩ := key H' N' F' z.2 c' P hz
    have q := hp G' H' e' S'
    simp only at q
    cases hz : z.1 with
    | d y => rw [hz] at q; exact fun v hv => q v (hv.mono l (TupLe.rf _))
    | c y => rw [hz] at q; exact fun v H2 ⟨fp, n1, n2, n3⟩ => q v H2 ⟨fp, n1, n2, Cl.mono n3 l (fun _ _ => rfl) (TupLe.rf _)⟩
def preC (n : Nat) (dds : List PyData) (z : List AV × List Sl) : R (Nat × Bool × List Ar) := (R.ofO (pickC n z.1)).bind fun i => (R.ofO (cellAt z.2 i)).bind fun ic => (R.ofO (rdDs z.2 (some i) (z.1.eraseIdx n))).bind fun ds => (R.req ic.2.fl).bind fun _ => .val (i, ic.1, insC n ic.2 (ds ++ dds))
theorem preC_ok {n : Nat} {z : List AV × List Sl} {G : Gh} {H : Hp} {σ : St} {τ : Type} {q : Nat × Bool × List Ar → R τ} {P : τ → Gh → Hp → Prop} (h : Pst X W G H σ ((preC n dds z).bind q) P) : ∃ i ic ds, pickC n z.1 = some i ∧ cellAt z.2 i = some ic ∧ rdDs z.2 (some i) (z.1.eraseIdx n) = some ds ∧ ic.2.fl = true ∧ Pst X W G H σ (q (i, ic.1, insC n ic.2 (ds ++ dds))) P := by
  unfold preC at h
  rw [R.bind_assoc] at h
  obtain ⟨i, h1, h⟩ := Pst.ofO h
  rw [R.bind_assoc] at h
  obtain ⟨ic, h2, h⟩ := Pst.ofO h
  rw [R.bind_assoc] at h
  obtain ⟨ds, h3, h⟩ := Pst.ofO h
  rw [R.bind_assoc] at h
  obtain ⟨h4, h⟩ := Pst.req h
  exact ⟨i, ic, ds, h1, h2, h3, h4, h⟩
end
end PD
set_option Elab.async false
set_option linter.all false
set_option maxRecDepth 100000
set_option maxHeartbeats 4000000
set_option autoImplicit false
namespace PD
open PySem PySem.Spec PyProof.Rows L2
section
variable {P : Program} {w : World} {A : Around} {E : Value → Shared → Prop} {s : Shared}
end
end PD
set_option Elab.async false
set_option linter.all false
set_option maxRecDepth 100000
set_option maxHeartbeats 4000000
set_option autoImplicit false
namespace PD
open PySem PySem.Spec PyProof.Rows L2
theorem rise_ext : ∀ {xs ys : List Int}, xs.Pairwise (· < ·) → ys.Pairwise (· < ·) → (∀ k, k ∈ xs ↔ k ∈ ys) → xs = ys
  | [], [], _, _, _ => rfl
  | [], y :: ys, _, _, h => absurd ((h y).2 (by simp)) (by simp)
  | x :: xs, [], _, _, h => absurd ((h x).1 (by simp)) (by simp)
  | x :: xs, y :: ys, hx, hy, h => by
    have hx' := List.pairwise_cons.mp hx
    have hy' := List.pairwise_cons.mp hy
    have e : x = y := by
      rcases List.mem_cons.mp ((h x).1 (by simp)) with z | z
      · exact z
      · rcases List.mem_cons.mp ((h y).2 (by simp)) with z' | z'
        · exact z'.symm
        · have a := hx'.1 y z'
          have b := hy'.1 x z
          omega
    subst e
    rw [rise_ext hx'.2 hy'.2 fun k => ?_]
    constructor
    · intro z
      rcases List.mem_cons.mp ((h k).1 (by simp [z])) with q | q
      · have := hx'.1 k z; omega
      · exact q
    · intro z
      rcases List.mem_cons.mp ((h k).2 (by simp [z])) with q | q
      · have := hy'.1 k z; omega
      · exact q
end PD
set_option Elab.async false
set_option linter.all false
set_option maxRecDepth 100000
set_option maxHeartbeats 4000000
set_option autoImplicit false
namespace PD
open PySem L2
section
variable {X : Cx} {W : WX} {sc : Scope} {N : List Str} {Γ : List Sl} {e : Expr} {es : List Expr} {pos p : Pos} {α γ : Type} {ma : R α} {as : α → List AV} {Γ1 : α → List Sl}
theorem ev_callB (C : Cf0 X W sc N) {x : Str} {id : String} {r : List V → Hp → VK → Prop} {k : α → R γ} {av : γ → AV} {Γk : γ → List Sl} (hc : CallR X (.builtin id) r) (hg : glB sc x = true) (hm : X.mg x = none) (hv : bootBuiltins x = some (.builtin id)) (ha : EvA X W Γ (e :: es) ma as Γ1)
    (hk : ∀ a G H σ vs Q, Sta X.K G H σ (Γ1 a) → AVs X.K G H σ vs (as a) → Pst X W G H σ (k a) (fun z G' H' => ∀ w, Sta X.K G' H' σ (Γk z) → AVok X.K G' H' σ w (av z) → Q w H') → r vs H Q)
    (hn : x ≠ "__name__" := by decide +kernel) (hdb : (x == ("__debug__" : Str)) = false := by decide +kernel) (he : starEach (e :: es) X.env = (false, eval e X.env) :: starEach es X.env := by rfl) (hpl : (backTo pos (starEach es X.env)).any (·.1) = false := by rfl) :
    Ev X W Γ (.Call (.Name x p) (e :: es) [] pos) (ma.bind k) av Γk :=
  pe_imp (pe_callB hc (C.gl hg) hm hv ha hn hdb he hpl) fun σ H Q ⟨G, S, p⟩ => ⟨G, S, (Pst.bind p).imp fun a G1 H1 e1 p1 vs S1 h1 => hk a G1 H1 σ vs Q S1 h1 p1⟩
theorem ev_callT (C : Cf0 X W sc N) {x : Str} {T : String} {r : List V → Hp → VK → Prop} {k : α → R γ} {av : γ → AV} {Γk : γ → List Sl} (hc : CallR X (.type T) r) (hg : glB sc x = true) (hm : X.mg x = none) (hv : bootBuiltins x = some (.type T)) (ha : EvA X W Γ (e :: es) ma as Γ1)
    (hk : ∀ a G H σ vs Q, Sta X.K G H σ (Γ1 a) → AVs X.K G H σ vs (as a) → Pst X W G H σ (k a) (fun z G' H' => ∀ w, Sta X.K G' H' σ (Γk z) → AVok X.K G' H' σ w (av z) → Q w H') → r vs H Q)
    (hn : x ≠ "__name__" := by decide +kernel) (hdb : (x == ("__debug__" : Str)) = false := by decide +kernel) (he : starEach (e :: es) X.env = (false, eval e X.env) :: starEach es X.env := by rfl) (hpl : (backTo pos (starEach es X.env)).any (·.1) = false := by rfl) :
    Ev X W Γ (.Call (.Name x p) (e :: es) [] pos) (ma.bind k) av Γk :=
  pe_imp (pe_callTy hc (C.gl hg) hm hv ha hn hdb he hpl) fun σ H Q ⟨G, S, p⟩ => ⟨G, S, (Pst.bind p).imp fun a G1 H1 e1 p1 vs S1 h1 => hk a G1 H1 σ vs Q S1 h1 p1⟩
theorem evf_callT (C : Cf0 X W sc N) {x : Str} {T : String} {r : List V → Hp → VK → Prop} {k : α → R γ} {ds : γ → List PyData} {Γk : γ → List Sl} (hc : CallR X (.type T) r) (hg : glB sc x = true) (hm : X.mg x = none) (hv : bootBuiltins x = some (.type T)) (ha : EvA X W Γ (e :: es) ma as Γ1)
    (hk : ∀ a G H σ vs Q, Sta X.K G H σ (Γ1 a) → AVs X.K G H σ vs (as a) → Pst X W G H σ (k a) (fun z G' H' => ∀ q ws, Sta X.K G' H' σ (Γk z) → H' q = none → DnA X.K (rg G' true) H' ws (ds z) → Q (.ref q) (upd H' q (.lst ws))) → r vs H Q)
    (hn : x ≠ "__name__" := by decide +kernel) (hdb : (x == ("__debug__" : Str)) = false := by decide +kernel) (he : starEach (e :: es) X.env = (false, eval e X.env) :: starEach es X.env := by rfl) (hpl : (backTo pos (starEach es X.env)).any (·.1) = false := by rfl) :
    EvF X W Γ (.Call (.Name x p) (e :: es) [] pos) (ma.bind k) ds Γk :=
  pe_imp (pe_callTy hc (C.gl hg) hm hv ha hn hdb he hpl) fun σ H Q ⟨G, S, p⟩ => ⟨G, S, (Pst.bind p).imp fun a G1 H1 e1 p1 vs S1 h1 => hk a G1 H1 σ vs Q S1 h1 p1⟩
end
def intsOf : List PyData → Option (List Int)
  | [] => some []
  | .int i :: ds => (intsOf ds).map (i :: ·)
  | _ => none
theorem intsOf_eq : ∀ {ds : List PyData} {ns : List Int}, intsOf ds = some ns → ds = ns.map PyData.int
  | [], _, h => by cases h; rfl
  | .int i :: ds, ns, h => by
    unfold intsOf at h
    cases e : intsOf ds with
    | none => rw [e] at h; cases h
    | some ms => rw [e] at h; cases h; rw [intsOf_eq e]; rfl
  | .none :: _, _, h => by cases h
  | .bool _ :: _, _, h => by cases h
  | .str _ :: _, _, h => by cases h
  | .list _ :: _, _, h => by cases h
  | .tuple _ :: _, _, h => by cases h
  | .dict _ :: _, _, h => by cases h
theorem intsOf_map : ∀ ns : List Int, intsOf (ns.map PyData.int) = some ns
  | [] => rfl
  | n :: ns => by simp [intsOf, intsOf_map ns]
section
variable {X : Cx} {W : WX} {sc : Scope} {N : List Str} {a b c e : Expr} {es : List Expr} {pos p : Pos} {f g : DF} {k : DA}
theorem callR_or {v : Value} {r1 r2 : List V → Hp → VK → Prop} (h1 : CallR X v r1) (h2 : CallR X v r2) : CallR X v (fun vs H Q => r1 vs H Q ∨ r2 vs H Q) := fun pins s σ H xs us Q I rv z => z.elim (h1 pins s σ H xs us Q I rv) (h2 pins s σ H xs us Q I rv)
def dB (q : List Sl → List AV → R AV) (k : DA) : DF := fun Γ => (k Γ).bind fun z => (q z.2 z.1).bind fun y => .val (y, z.2)
theorem ce_bB (C : Cf0 X W sc N) {x : Str} {id : String} {r : List V → Hp → VK → Prop} (q : List Sl → List AV → R AV) (hc : CallR X (.builtin id) r) (hg : glB sc x = true) (hm : X.mg x = none) (hv : bootBuiltins x = some (.builtin id)) (ha : CA X W (e :: es) k)
    (hk : ∀ as Γ2 G H σ vs Q, Sta X.K G H σ Γ2 → AVs X.K G H σ vs as → Pk X W G H σ ((q Γ2 as).bind fun y => .val (y, Γ2)) Q → r vs H Q)
    (hn : x ≠ "__name__" := by decide +kernel) (hdb : (x == ("__debug__" : Str)) = false := by decide +kernel) (he : starEach (e :: es) X.env = (false, eval e X.env) :: starEach es X.env := by rfl) (hpl : (backTo pos (starEach es X.env)).any (·.1) = false := by rfl) :
    CE X W (.Call (.Name x p) (e :: es) [] pos) (dB q k) := fun Γ => ev_callB (k := fun z : List AV × List Sl => (q z.2 z.1).bind fun y => .val (y, z.2)) C hc hg hm hv (ha Γ) (fun z G H σ vs Q S h p => hk z.1 z.2 G H σ vs Q S h p) hn hdb he hpl
theorem ce_bT (C : Cf0 X W sc N) {x : Str} {id : String} {r : List V → Hp → VK → Prop} (q : List Sl → List AV → R AV) (hc : CallR X (.type id) r) (hg : glB sc x = true) (hm : X.mg x = none) (hv : bootBuiltins x = some (.type id)) (ha : CA X W (e :: es) k)
    (hk : ∀ as Γ2 G H σ vs Q, Sta X.K G H σ Γ2 → AVs X.K G H σ vs as → Pk X W G H σ ((q Γ2 as).bind fun y => .val (y, Γ2)) Q → r vs H Q)
    (hn : x ≠ "__name__" := by decide +kernel) (hdb : (x == ("__debug__" : Str)) = false := by decide +kernel) (he : starEach (e :: es) X.env = (false, eval e X.env) :: starEach es X.env := by rfl) (hpl : (backTo pos (starEach es X.env)).any (·.1) = false := by rfl) :
    CE X W (.Call (.Name x p) (e :: es) [] pos) (dB q k) := fun Γ => ev_callT (k := fun z : List AV × List Sl => (q z.2 z.1).bind fun y => .val (y, z.2)) C hc hg hm hv (ha Γ) (fun z G H σ vs Q S h p => hk z.1 z.2 G H σ vs Q S h p) hn hdb he hpl
def Pn (X : Cx) (W : WX) (G : Gh) (H : Hp) (σ : St) (m : R (List PyData × List Sl)) (Q : VK) : Prop := Pst X W G H σ m fun z G' H' => ∀ q ws, Sta X.K G' H' σ z.2 → H' q = none → DnA X.K (rg G' true) H' ws z.1 → Q (.ref q) (upd H' q (.lst ws))
def dBN (q : List Sl → List AV → R (List PyData)) (k : DA) : DN := fun Γ => (k Γ).bind fun z => (q z.2 z.1).bind fun y => .val (y, z.2)
theorem cn_bT (C : Cf0 X W sc N) {x : Str} {id : String} {r : List V → Hp → VK → Prop} (q : List Sl → List AV → R (List PyData)) (hc : CallR X (.type id) r) (hg : glB sc x = true) (hm : X.mg x = none) (hv : bootBuiltins x = some (.type id)) (ha : CA X W (e :: es) k)
    (hk : ∀ as Γ2 G H σ vs Q, Sta X.K G H σ Γ2 → AVs X.K G H σ vs as → Pn X W G H σ ((q Γ2 as).bind fun y => .val (y, Γ2)) Q → r vs H Q)
    (hn : x ≠ "__name__" := by decide +kernel) (hdb : (x == ("__debug__" : Str)) = false := by decide +kernel) (he : starEach (e :: es) X.env = (false, eval e X.env) :: starEach es X.env := by rfl) (hpl : (backTo pos (starEach es X.env)).any (·.1) = false := by rfl) :
    CN X W (.Call (.Name x p) (e :: es) [] pos) (dBN q k) := fun Γ => evf_callT (k := fun z : List AV × List Sl => (q z.2 z.1).bind fun y => .val (y, z.2)) C hc hg hm hv (ha Γ) (fun z G H σ vs Q S h p => hk z.1 z.2 G H σ vs Q S h p) hn hdb he hpl
theorem Pn.v {G : Gh} {H : Hp} {σ : St} {ds : List PyData} {Γ : List Sl} {Q : VK} (h : Pn X W G H σ (.val (ds, Γ)) Q) (S : Sta X.K G H σ Γ) {q : Addr} {ws : List V} (hq : H q = none) (hd : DnA X.K (rg G true) H ws ds) : Q (.ref q) (upd H q (.lst ws)) := h G H (Ext.rf S.w) q ws S hq hd
def kLen (Γ : List Sl) : List AV → R AV
  | [x] => match rdD Γ x with
    | some (.list ds) => .val (.d true (.int (ds.length : Nat)))
    | some (.tuple ds) => .val (.d true (.int (ds.length : Nat)))
    | some (.str z) => gq (decide (z.length ≤ sizeLine)) (.d true (.int (z.length : Nat)))
    | _ => .bad
  | _ => .bad
theorem ce_len (C : Cf0 X W sc N) (hg : glB sc "len" = true) (hm : X.mg "len" = none) (ha : CA X W [e] k) (he : starEach [e] X.env = (false, eval e X.env) :: starEach [] X.env := by rfl) : CE X W (.Call (.Name "len" p) [e] [] pos) (dB kLen k) :=
  ce_bB C kLen (callR_or call_len_seq call_len_str) hg hm PySem.boot_len ha (fun as Γ2 G H σ vs Q S h q => by
    unfold kLen at q
    split at q
    · obtain ⟨v, rfl, hv⟩ := avs_one h
      split at q
      · rename_i ds hd
        obtain ⟨l, xs, rfl, g1, g2⟩ := dn_list ((rdD_ok hd).ok S hv)
        refine .inl ⟨l, xs, rfl, .inl g1.sq, Pk.v q S ?_⟩
        rw [g2.length]
        exact .int _
      · rename_i ds hd
        obtain ⟨l, xs, rfl, g1, g2⟩ := dn_tuple ((rdD_ok hd).ok S hv)
        refine .inl ⟨l, xs, rfl, .inr g1, Pk.v q S ?_⟩
        rw [g2.length]
        exact .int _
      · rename_i z hd
        rcases gq_cases (decide (z.length ≤ sizeLine)) (AV.d true (.int (z.length : Nat))) with e | ⟨hc, e⟩
        · rw [e] at q; exact q.elim
        · rw [e] at q
          exact .inr ⟨z, by rw [dn_str ((rdD_ok hd).ok S hv)], of_decide_eq_true hc, Pk.v q S (.int _)⟩
      · exact q.elim
    · exact q.elim) (by decide +kernel) (by decide +kernel) he
def kMax2 (_ : List Sl) : List AV → R AV
  | [.d _ (.int i), .d _ (.int j)] => .val (.d true (.int (max2 i j)))
  | _ => .bad
def kMin2 (_ : List Sl) : List AV → R AV
  | [.d _ (.int i), .d _ (.int j)] => .val (.d true (.int (min2 i j)))
  | _ => .bad
theorem ce_max2 (C : Cf X W sc N) (hg : glB sc "max" = true) (hm : X.mg "max" = none) (ha : CA X W (e :: es) k) (he : starEach (e :: es) X.env = (false, eval e X.env) :: starEach es X.env := by rfl) (hpl : (backTo pos (starEach es X.env)).any (·.1) = false := by rfl) : CE X W (.Call (.Name "max" p) (e :: es) [] pos) (dB kMax2 k) :=
  ce_bB C.toCf0 kMax2 (call_max2 C.calm) hg hm PyProof.Rows.boot_max ha (fun as Γ2 G H σ vs Q S h q => by
    unfold kMax2 at q
    split at q
    · obtain ⟨v, u, rfl, q1, q2⟩ := avs_two h
      exact ⟨_, _, by rw [dn_int q1, dn_int q2], Pk.v q S (.int _)⟩
    · exact q.elim) (by decide +kernel) (by decide +kernel) he hpl
theorem ce_min2 (C : Cf X W sc N) (hg : glB sc "min" = true) (hm : X.mg "min" = none) (ha : CA X W (e :: es) k) (he : starEach (e :: es) X.env = (false, eval e X.env) :: starEach es X.env := by rfl) (hpl : (backTo pos (starEach es X.env)).any (·.1) = false := by rfl) : CE X W (.Call (.Name "min" p) (e :: es) [] pos) (dB kMin2 k) :=
  ce_bB C.toCf0 kMin2 (call_min2 C.calm) hg hm (by decide +kernel) ha (fun as Γ2 G H σ vs Q S h q => by
    unfold kMin2 at q
    split at q
    · obtain ⟨v, u, rfl, q1, q2⟩ := avs_two h
      exact ⟨_, _, by rw [dn_int q1, dn_int q2], Pk.v q S (.int _)⟩
    · exact q.elim) (by decide +kernel) (by decide +kernel) he hpl
def rdInts (Γ : List Sl) (x : AV) : Option (List Int) := match rdD Γ x with
  | some (.list ds) => intsOf ds
  | _ => none
theorem rdInts_ok {G : Gh} {H : Hp} {σ : St} {Γ : List Sl} {x : AV} {v : V} {ns : List Int} (S : Sta X.K G H σ Γ) (hv : AVok X.K G H σ v x) (h : rdInts Γ x = some ns) : ∃ l, v = .ref l ∧ SqL X.K H l (ns.map V.int) := by
  unfold rdInts at h
  split at h
  · rename_i ds hd
    obtain ⟨l, xs, rfl, g1, g2⟩ := dn_list ((rdD_ok hd).ok S hv)
    rw [intsOf_eq h] at g2
    rw [dna_ints g2] at g1
    exact ⟨l, rfl, g1.sq⟩
  · cases h
theorem ofO_cases {α β : Type} {o : Option α} {k : α → R β} : (∃ y, o = some y ∧ (R.ofO o).bind k = k y) ∨ (R.ofO o).bind k = .bad := by
  cases o with
  | none => exact .inr rfl
  | some y => exact .inl ⟨y, rfl, rfl⟩
def minL : List Int → Option Int
  | [] => none
  | n :: ns => some (ns.foldl min2 n)
theorem fold_min : ∀ (ns : List Int) (n : Int), ns.foldl min2 n ≤ n ∧ (∀ y ∈ ns, ns.foldl min2 n ≤ y) ∧ (ns.foldl min2 n = n ∨ ns.foldl min2 n ∈ ns)
  | [], n => ⟨Int.le_refl _, by simp, .inl rfl⟩
  | m :: ns, n => by
    obtain ⟨h1, h2, h3⟩ := fold_min ns (min2 n m)
    rw [List.foldl_cons]
    have hn : min2 n m ≤ n ∧ min2 n m ≤ m ∧ (min2 n m = n ∨ min2 n m = m) := by unfold min2; split <;> omega
    refine ⟨by omega, fun y hy => ?_, ?_⟩
    · rcases List.mem_cons.mp hy with rfl | hy
      · omega
      · exact h2 y hy
    · rcases h3 with h3 | h3
      · rw [h3]; rcases hn.2.2 with e | e
        · exact .inl e
        · exact .inr (by rw [e]; simp)
      · exact .inr (by simp [h3])
theorem minL_ok {ns : List Int} {m : Int} (h : minL ns = some m) : 0 < ns.length ∧ m ∈ ns ∧ ∀ y ∈ ns, m ≤ y := by
  cases ns with
  | nil => cases h
  | cons n ns =>
    cases h
    obtain ⟨h1, h2, h3⟩ := fold_min ns n
    refine ⟨by simp, by rcases h3 with e | e <;> simp [e], fun y hy => ?_⟩
    rcases List.mem_cons.mp hy with rfl | hy
    · exact h1
    · exact h2 y hy
def kMin1 (Γ : List Sl) : List AV → R AV
  | [x] => (R.ofO ((rdInts Γ x).bind minL)).bind fun m => .val (.d true (.int m))
  | _ => .bad
theorem ce_min1 (C : Cf X W sc N) (hg : glB sc "min" = true) (hm : X.mg "min" = none) (ha : CA X W [e] k) (he : starEach [e] X.env = (false, eval e X.env) :: starEach [] X.env := by rfl) : CE X W (.Call (.Name "min" p) [e] [] pos) (dB kMin1 k) :=
  ce_bB C.toCf0 kMin1 (cr_min C.calm) hg hm (by decide +kernel) ha (fun as Γ2 G H σ vs Q S h q => by
    unfold kMin1 at q
    split at q
    · rename_i x
      obtain ⟨v, rfl, hv⟩ := avs_one h
      rcases ofO_cases (o := (rdInts Γ2 x).bind minL) (k := fun m => R.val (AV.d true (.int m))) with ⟨m, e1, e2⟩ | e2
      · rw [e2] at q
        cases hns : rdInts Γ2 x with
        | none => rw [hns] at e1; cases e1
        | some ns =>
          rw [hns] at e1
          obtain ⟨l, rfl, hs⟩ := rdInts_ok S hv hns
          obtain ⟨h0, h1, h2⟩ := minL_ok e1
          refine ⟨l, ns, rfl, hs, h0, fun m' hm' hb => ?_⟩
          have : m' = m := Int.le_antisymm (hb m h1) (h2 m' hm')
          subst this
          exact Pk.v q S (.int _)
      · rw [e2] at q; exact q.elim
    · exact q.elim) (by decide +kernel) (by decide +kernel) he
def kInt (_ : List Sl) : List AV → R AV
  | [.d _ (.int i)] => .val (.d true (.int i))
  | [.d _ (.bool z)] => .val (.d true (.int (b2n z)))
  | _ => .bad
theorem ce_intc (C : Cf0 X W sc N) (hg : glB sc "int" = true) (hm : X.mg "int" = none) (ha : CA X W [e] k) (he : starEach [e] X.env = (false, eval e X.env) :: starEach [] X.env := by rfl) : CE X W (.Call (.Name "int" p) [e] [] pos) (dB kInt k) :=
  ce_bT C kInt call_int1 hg hm PyProof.Rows.boot_int ha (fun as Γ2 G H σ vs Q S h q => by
    unfold kInt at q
    split at q
    · obtain ⟨v, rfl, hv⟩ := avs_one h
      exact .inl ⟨_, by rw [dn_int hv], Pk.v q S (.int _)⟩
    · obtain ⟨v, rfl, hv⟩ := avs_one h
      exact .inr ⟨_, by rw [dn_bool hv], Pk.v q S (.int _)⟩
    · exact q.elim) (by decide +kernel) (by decide +kernel) he
def rdSeq (Γ : List Sl) : AV → Option (List PyData × Bool)
  | .d fr (.list ds) => some (ds, fr)
  | .d fr (.tuple ds) => some (ds, fr)
  | .s i => match rdD Γ (.s i) with
    | some (.list ds) => some (ds, true)
    | _ => none
  | _ => none
theorem rdSeq_ok {G : Gh} {H : Hp} {σ : St} {Γ : List Sl} {x : AV} {v : V} {z : List PyData × Bool} (S : Sta X.K G H σ Γ) (hv : AVok X.K G H σ v x) (h : rdSeq Γ x = some z) : ∃ l xs, v = .ref l ∧ (SqL X.K H l xs ∨ H l = some (.tup xs)) ∧ DnA X.K (rg G z.2) H xs z.1 := by
  unfold rdSeq at h
  split at h
  · cases h
    obtain ⟨l, xs, rfl, g1, g2⟩ := dn_list hv
    exact ⟨l, xs, rfl, .inl (g1.mono (S.w.rgl _)).sq, g2⟩
  · cases h
    obtain ⟨l, xs, rfl, g1, g2⟩ := dn_tupleH hv
    exact ⟨l, xs, rfl, .inr g1, g2⟩
  · split at h
    · rename_i ds hd
      cases h
      obtain ⟨l, xs, rfl, g1, g2⟩ := S.slotL hd hv
      exact ⟨l, xs, rfl, .inl (SqL.of g1), g2⟩
    · cases h
  · cases h
def kTuple (Γ : List Sl) : List AV → R AV
  | [x] => (R.ofO (rdSeq Γ x)).bind fun z => .val (.d z.2 (.tuple z.1))
  | _ => .bad
theorem ce_tuple (C : Cf0 X W sc N) (hg : glB sc "tuple" = true) (hm : X.mg "tuple" = none) (ha : CA X W [e] k) (he : starEach [e] X.env = (false, eval e X.env) :: starEach [] X.env := by rfl) : CE X W (.Call (.Name "tuple" p) [e] [] pos) (dB kTuple k) :=
  ce_bT C kTuple call_tuple_of hg hm PyProof.Rows.boot_tuple ha (fun as Γ2 G H σ vs Q S h q => by
    unfold kTuple at q
    split at q
    · rename_i x
      obtain ⟨v, rfl, hv⟩ := avs_one h
      rcases ofO_cases (o := rdSeq Γ2 x) (k := fun z => R.val (AV.d z.2 (.tuple z.1))) with ⟨z, e1, e2⟩ | e2
      · rw [e2] at q
        obtain ⟨l, xs, rfl, hs, hd⟩ := rdSeq_ok S hv e1
        refine ⟨l, xs, rfl, hs.imp (fun hs => ⟨hs, fun l' hl => ?_⟩) fun hs => ⟨SqT.of hs, Pk.v q S (.tup hs hd)⟩⟩
        obtain ⟨G2, S2, e2, h2⟩ := S.newTup hl hd
        exact Pk.v' q e2 S2 h2
      · rw [e2] at q; exact q.elim
    · exact q.elim) (by decide +kernel) (by decide +kernel) he
def kList (Γ : List Sl) : List AV → R (List PyData)
  | [x] => (R.ofO (rdSeq Γ x)).bind fun z => gq (z.2 || flat.flatA z.1) z.1
  | _ => .bad
theorem cn_list (C : Cf0 X W sc N) (hg : glB sc "list" = true) (hm : X.mg "list" = none) (ha : CA X W [e] k) (he : starEach [e] X.env = (false, eval e X.env) :: starEach [] X.env := by rfl) : CN X W (.Call (.Name "list" p) [e] [] pos) (dBN kList k) :=
  cn_bT C kList call_list_of hg hm PyProof.Rows.boot_list ha (fun as Γ2 G H σ vs Q S h q => by
    unfold kList at q
    split at q
    · rename_i x
      obtain ⟨v, rfl, hv⟩ := avs_one h
      rcases ofO_cases (o := rdSeq Γ2 x) (k := fun z => gq (z.2 || flat.flatA z.1) z.1) with ⟨z, e1, e2⟩ | e2
      · rw [e2] at q
        obtain ⟨l, xs, rfl, hs, hd⟩ := rdSeq_ok S hv e1
        rcases gq_cases (z.2 || flat.flatA z.1) z.1 with e | ⟨hc, e⟩
        · rw [e] at q; exact q.elim
        · rw [e] at q
          refine ⟨l, xs, rfl, hs.imp id SqT.of, fun l' hl => Pn.v q S hl ?_⟩
          obtain ⟨ds, fr⟩ := z
          cases fr with
          | true => exact hd
          | false => exact hd.free (by simpa using hc)
      · rw [e2] at q; exact q.elim
    · exact q.elim) (by decide +kernel) (by decide +kernel) he
inductive Tn where
  | int | bool | str | list | tuple | dict
def Tn.nm : Tn → String
  | .int => "int"
  | .bool => "bool"
  | .str => "str"
  | .list => "list"
  | .tuple => "tuple"
  | .dict => "dict"
def tyIs : PyData → Tn → Bool
  | .bool _, .int => true
  | .bool _, .bool => true
  | .int _, .int => true
  | .str _, .str => true
  | .list _, .list => true
  | .tuple _, .tuple => true
  | .dict _, .dict => true
  | _, _ => false
theorem tyIs_kit (d : PyData) (t : Tn) : kitB (pyTy d) t.nm = some (tyIs d t) := by
  cases d <;> cases t <;> simp only [pyTy, Tn.nm, tyIs] <;> decide +kernel
def noDct : PyData → Bool
  | .dict _ => false
  | _ => true
theorem dn_ty {K : PySem.W.Frag} {H : Hp} {v : V} {d : PyData} (h : Dn K (RgH H) H v d) (hn : noDct d = true) : TyX K H v (.type (pyTy d)) := by
  cases h with
  | non => exact .base .non
  | bl b => exact .base (.bl b)
  | int i => exact .base (.int i)
  | str x => exact .base (.str x)
  | lst h _ =>
    rcases h.sq with (h | ⟨o, h⟩) | ⟨o, its, n, h1, h2, _⟩
    · exact .base (.lst h)
    · exact .base (.frz h)
    · exact .kList h1 h2
  | tup h _ => exact .base (.tup h)
  | dct _ _ _ => cases hn
  | exc _ _ _ _ => cases hn
  | exc0 _ => cases hn
  | ins _ _ _ _ => cases hn
  | dcu _ _ _ => cases hn
  | row _ _ _ _ _ _ => cases hn
def dIsi (ts : List Tn) (f : DF) : DF := fun Γ => (f Γ).bind fun x => match rdD x.2 x.1 with
  | some d => gq (noDct d) (.d true (.bool (ts.any fun t => tyIs d t)), x.2)
  | none => .bad
theorem ce_isi (C : Cf0 X W sc N) (t : Tn) {T : Str} {p2 : Pos} (hg : glB sc "isinstance" = true) (hm : X.mg "isinstance" = none) (hgT : glB sc T = true) (hmT : X.mg T = none) (hv : bootBuiltins T = some (.type t.nm)) (ha : CE X W e f)
    (hnT : T ≠ "__name__" := by decide +kernel) (hdT : (T == ("__debug__" : Str)) = false := by decide +kernel) (hst : starEach [e, .Name T p2] X.env = (false, eval e X.env) :: starEach [.Name T p2] X.env := by rfl) (hst2 : starEach [.Name T p2] X.env = (false, eval (.Name T p2) X.env) :: starEach [] X.env := by rfl) :
    CE X W (.Call (.Name "isinstance" p) [e, .Name T p2] [] pos) (dIsi [t] f) := fun Γ => by
  have hT : PE X (.Name T p2) (tC (.ty t.nm)) := pe_bltn (C.gl hgT) hmT hv rfl hnT hdT
  refine pe_imp (pe_callB call_isi (C.gl hg) hm PyProof.Rows.boot_isinstance (pa_cons (ha Γ) (pa_cons hT pa_nil hst2) hst) (by decide +kernel) (by decide +kernel) hst (by rw [hst2]; rfl)) fun σ H Q ⟨G, S, q⟩ => ⟨G, S, (Pst.bind q).imp fun x G1 H1 e1 p1 v S1 hv => ?_⟩
  split at p1
  · rename_i d hd
    obtain ⟨hn, p1⟩ := Pst.gq S1.w p1
    refine ⟨v, .ty t.nm, .type (pyTy d), .type t.nm, tyIs d t, rfl, .ty t.nm, dn_ty ((rdD_ok hd).ok S1 hv) hn, kit_ty (tyIs_kit d t), ?_⟩
    have := p1 (.bl (tyIs d t)) S1 (by show Dn _ _ _ _ (.bool (tyIs d t || false)); rw [Bool.or_false]; exact .bl _)
    exact this
  · exact p1.elim
end
end PD
set_option Elab.async false
set_option linter.all false
set_option maxRecDepth 100000
set_option maxHeartbeats 4000000
set_option autoImplicit false
namespace PD
open PySem L2
def R.nox {α : Type} : R α → R α
  | .exc _ => .bad
  | m => m
abbrev WF : WX := fun _ _ _ _ => False
section
variable {X : Cx} {W : WX} {sc : Scope} {N : List Str} {Γ : List Sl}
theorem Cf.blk (C : Cf X W sc N) {s : Shared} {H : Hp} {scope : Scope} {cl : List (Str × Addr)} {c : Addr} {fp : List Addr} : Cf (X.blk s H scope (compEnvC scope cl c X.env) fp) WF (relS scope sc) N := by
  refine ⟨⟨?_, C.hN, C.nd, takes0N, C.hu, PassesOwn.never, C.hu2⟩, C.calm⟩
  show relabel scope X.env = relS scope sc
  rw [← C.hsc]
  rfl
theorem Clee.blk {x : Str} {dvs : List V} {sp : Sp} (h : Clee X x dvs sp) {s : Shared} {H : Hp} {scope : Scope} {ce : Env} {fp : List Addr} : Clee (X.blk s H scope ce fp) x dvs sp := h
theorem Sta.wipeS {K : PySem.W.Frag} {G : Gh} {H : Hp} {σ : St} {Γ : List Sl} (S : Sta K G H σ Γ) : ∀ vs : List Nat, Sta K G H (L2.wipe σ vs) (wipeG Γ vs)
  | [] => S
  | v :: vs => (Sta.wipeS S vs).blank v none
theorem wipeG_at {Γ : List Sl} : ∀ {vs : List Nat} {i : Nat}, i ∈ vs → i < Γ.length → (wipeG Γ vs)[i]? = some .un
  | v :: vs, i, h, hl => by
    have hlen : ∀ ws : List Nat, (wipeG Γ ws).length = Γ.length := fun ws => by
      induction ws with
      | nil => rfl
      | cons w ws ih => simp [wipeG, ih]
    by_cases q : i = v
    · subst q
      exact List.getElem?_set_self (by rw [hlen]; exact hl)
    · have h' : i ∈ vs := by
        rcases List.mem_cons.mp h with z | z
        · exact absurd z q
        · exact z
      show ((wipeG Γ vs).set v .un)[i]? = some .un
      rw [List.getElem?_set_ne (Ne.symm q)]
      exact wipeG_at h' hl
theorem wipe_eq {σ σ' : St} {vs ts : List Nat} (hl : σ'.length = σ.length) (h : ∀ j, j ∉ ts → σ'[j]? = σ[j]?) (hs : ∀ j ∈ ts, j ∈ vs) : wipe σ' vs = wipe σ vs := by
  have at_ : ∀ (ρ : St) (ws : List Nat) (j : Nat), j ∈ ws → j < ρ.length → (wipe ρ ws)[j]? = some none := fun ρ ws => by
    induction ws with
    | nil => intro j hj; cases hj
    | cons w ws ih =>
      intro j hj hl
      by_cases q : j = w
      · subst q
        exact List.getElem?_set_self (by rw [wipe_length]; exact hl)
      · show ((wipe ρ ws).set w none)[j]? = some none
        rw [List.getElem?_set_ne (Ne.symm q)]
        refine ih j ?_ hl
        rcases List.mem_cons.mp hj with z | z
        · exact absurd z q
        · exact z
  refine List.ext_getElem? fun j => ?_
  by_cases hj : j ∈ vs
  · by_cases hlt : j < σ.length
    · rw [at_ σ' vs j hj (by rw [hl]; exact hlt), at_ σ vs j hj hlt]
    · rw [List.getElem?_eq_none (by rw [wipe_length, hl]; omega), List.getElem?_eq_none (by rw [wipe_length]; omega)]
  · rw [wipe_out hj, wipe_out hj]
    exact h j fun z => hj (hs j z)
def compU (vs : List Nat) (g : DG) (fr : Bool) (t : DT) (e : DF) : List PyData → List Sl → R (List PyData × List Sl)
  | [], Γ => .val ([], Γ)
  | d :: ds, Γ => (R.ofO (g fr d Γ)).bind fun Γ1 => (t Γ1).nox.bind fun x => if x.1 then (e x.2).nox.bind fun y => (R.ofO (avD y.1)).bind fun o => (compU vs g fr t e ds (wipeG y.2 vs)).bind fun r => .val (o :: r.1, r.2) else compU vs g fr t e ds (wipeG x.2 vs)
theorem compU_cons (vs : List Nat) (g : DG) (fr : Bool) (t : DT) (e : DF) (d : PyData) (ds : List PyData) (Γ : List Sl) : compU vs g fr t e (d :: ds) Γ = (R.ofO (g fr d Γ)).bind fun Γ1 => (t Γ1).nox.bind fun x => if x.1 then (e x.2).nox.bind fun y => (R.ofO (avD y.1)).bind fun o => (compU vs g fr t e ds (wipeG y.2 vs)).bind fun r => .val (o :: r.1, r.2) else compU vs g fr t e ds (wipeG x.2 vs) := rfl
def nComp (vs : List Nat) (g : DG) (it : DI) (t : DT) (e : DF) : DN := fun Γ => (it Γ).bind fun z => (R.req (szB z.1.1)).bind fun _ => compU vs g z.1.2 t e z.1.1 (wipeG z.2 vs)
def CTs (X : Cx) (W : WX) (es : List Expr) (f : DT) : Prop := ∀ Γ, PTs X es (rdT X W Γ (f Γ) Prod.fst Prod.snd)
theorem cts_one {e : Expr} {t : DT} (h : CT X W e t) : CTs X W [e] t := fun Γ => pts_one (h Γ)
def tYes : DT := fun Γ => .val (true, Γ)
theorem cts_nil : CTs X W [] tYes := fun Γ => ⟨fun pins s' σ H Q I ⟨G, S, p⟩ => pts_nil.run pins s' σ H Q I (p G H (Ext.rf S.w) S)⟩
variable {tg iter elt : Expr} {ifs : List Expr} {scope : Scope} {own : List (Str × Nat)} {pos : Pos} {it : DI} {g : DG} {t : DT} {e : DF} {ts : List Nat}
theorem comp_rdU (hts : ∀ j ∈ ts, j ∈ own.map (·.2)) {σ : St} {H : Hp} {Q : VK} (h : rdF X W Γ (nComp (own.map (·.2)) g it t e Γ) Prod.fst Prod.snd σ H Q) :
    tLc (rdIU X W Γ (it Γ)) (fun v σ H Q => ∃ G Γ fr d Γ', Sta X.K G H σ Γ ∧ Dn X.K (rg G fr) H v d ∧ g fr d Γ = some Γ' ∧ ∀ σ', σ'.length = σ.length → (∀ j, j ∉ ts → σ'[j]? = σ[j]?) → Sta X.K G H σ' Γ' → Q σ' H)
      (fun σ H Q => ∃ Γ1, rdT X WF Γ1 (t Γ1) Prod.fst Prod.snd σ H Q) (fun σ H Q => ∃ Γ1, rdE X WF Γ1 (e Γ1) Prod.fst Prod.snd σ H Q) (own.map (·.2)) σ H Q := by
  obtain ⟨G, S0, p⟩ := h
  refine ⟨G, S0, (Pst.bind p).imp fun r G1 H1 e1 p1 J S1 I D hD => ?_⟩
  generalize hvs : own.map (·.2) = vs at *
  obtain ⟨⟨items, fr⟩, Γ1⟩ := r
  obtain ⟨hsz, p1⟩ := Pst.req p1
  simp only at hsz p1 I S1
  have hsz : items.length ≤ sizeLine := of_decide_eq_true hsz
  have hE0 : G1.E D = none := by
    cases q : G1.E D with
    | none => rfl
    | some u => rw [(S1.w.ex D u q).1] at hD; cases hD
  have hID : ∀ j, G1.I j ≠ some (.ref D) := fun j h => by
    rcases S1.w.iv j D h with z | z | ⟨xs, z⟩
    · exact S1.w.pal D z hD
    · exact z hE0
    · rw [hD] at z; cases z
  have hww : L2.wipe (L2.wipe σ vs) vs = L2.wipe σ vs := wipe_eq (ts := vs) (wipe_length ..) (fun j hj => wipe_out hj) (fun j hj => hj)
  have nol : ∀ vs' : List V, (∀ xs, HO.lst vs' ≠ .tup xs) ∧ ∀ x y, HO.lst vs' ≠ .frz x y := fun vs' => ⟨fun _ z => (by cases z), fun _ _ z => (by cases z)⟩
  let cu : List PyData → List Sl → R (List PyData × List Sl) := compU vs g fr t e
  let body : Nat → Hp → Prop := fun i H2 => i ≤ items.length ∧ ∃ G2 s0 vacc bs, Sta X.K G2 H2 (L2.wipe σ vs) (wipeG s0 vs) ∧ Le G1 H1 G2 H2 ∧ G2.E = upd G1.E D (.lst vacc) ∧ G2.I = G1.I ∧ DnA X.K (rg G2 true) H2 vacc bs ∧ bs.length ≤ i ∧
    compU vs g fr t e items (wipeG Γ1 vs) = (compU vs g fr t e (items.drop i) (wipeG s0 vs)).bind fun z => .val (bs ++ z.1, z.2)
  refine ⟨fun i m H2 => m = items.length - i ∧ body i H2, ⟨_, rfl, Nat.zero_le _, ?_⟩, ?_⟩
  · have Sw : Sta X.K G1 H1 (L2.wipe σ vs) (wipeG Γ1 vs) := S1.wipeS vs
    obtain ⟨S2, t2⟩ := Sw.pin (o := .lst []) hD
    refine ⟨_, Γ1, [], [], S2, ⟨rfl, rfl, fun _ _ h => h, fun _ _ h => .inl h, t2, S2.w, fun a o h => by show upd G1.E D _ a = _; rw [upd_ne (fun z => by rw [z, hE0] at h; cases h)]; exact h⟩, rfl, rfl, .nil, Nat.le_refl _, ?_⟩
    rw [List.drop_zero]
    have : (fun z : List PyData × List Sl => R.val ([] ++ z.1, z.2)) = fun z => R.val z := rfl
    rw [this, R.bind_val]
  · rintro i m H2 ⟨rfl, hile, G2, s0, vacc, bs, S2, l2, hE2, hI2, d2, hbs, eq⟩
    by_cases hlt : i < items.length
    · rw [List.drop_eq_getElem_cons hlt, compU_cons, R.bind_assoc] at eq
      cases hg : g fr items[i] (wipeG s0 vs) with
      | none => rw [hg] at eq; rw [eq] at p1; exact p1.elim
      | some Γ3 =>
      rw [hg] at eq
      have eq : compU vs g fr t e items (wipeG Γ1 vs) = ((t Γ3).nox.bind fun x => if x.1 then (e x.2).nox.bind fun y => (R.ofO (avD y.1)).bind fun o => (compU vs g fr t e (items.drop (i + 1)) (wipeG y.2 vs)).bind fun r => .val (o :: r.1, r.2) else compU vs g fr t e (items.drop (i + 1)) (wipeG x.2 vs)).bind fun z => .val (bs ++ z.1, z.2) := eq
      rw [R.bind_assoc] at eq
      refine .inr ⟨I.go i G2 H2 hlt l2, body (i + 1), fun H' hb => ⟨_, (by omega), rfl, hb⟩, fun v H3 y => ?_⟩
      obtain ⟨G3, d, hd, e3, S3, dn⟩ := I.yl i G2 H2 _ _ v H3 hlt l2 S2 y
      have hx : d = items[i] := by
        rw [List.getElem?_eq_getElem hlt] at hd
        exact (Option.some.inj hd).symm
      subst hx
      refine ⟨G3, wipeG s0 vs, fr, items[i], Γ3, S3, dn, hg, fun σ2 l3 k3 S4 => ⟨(wipe_eq l3 k3 hts).trans hww, Γ3, G3, S4, ?_⟩⟩
      have hw2 : L2.wipe σ2 vs = L2.wipe σ vs := (wipe_eq l3 k3 hts).trans hww
      cases htt : t Γ3 with
      | bad => rw [htt] at eq; rw [eq] at p1; exact p1.elim
      | exc z => rw [htt] at eq; rw [eq] at p1; exact p1.elim
      | val x =>
        rw [htt] at eq
        intro G4 H4 e4 S5
        obtain ⟨b, Γ4⟩ := x
        have eq : compU vs g fr t e items (wipeG Γ1 vs) = (if b = true then (e Γ4).nox.bind fun y => (R.ofO (avD y.1)).bind fun o => (compU vs g fr t e (items.drop (i + 1)) (wipeG y.2 vs)).bind fun r => .val (o :: r.1, r.2) else compU vs g fr t e (items.drop (i + 1)) (wipeG Γ4 vs)).bind fun z => .val (bs ++ z.1, z.2) := eq
        have l4 : Le G1 H1 G4 H4 := (l2.tr e3.le).tr e4.le
        have hE4 : G4.E = upd G1.E D (.lst vacc) := e4.e.trans (e3.e.trans hE2)
        have hI4 : G4.I = G1.I := e4.i.trans (e3.i.trans hI2)
        have d4 : DnA X.K (rg G4 true) H4 vacc bs := e4.dna (e3.dna d2)
        cases b with
        | false =>
          refine itF ⟨hlt, G4, Γ4, vacc, bs, ?_, l4, hE4, hI4, d4, Nat.le_succ_of_le hbs, ?_⟩
          · rw [← hw2]
            exact S5.wipeS vs
          · rw [eq, if_neg (by simp)]
        | true =>
          rw [if_pos rfl, R.bind_assoc] at eq
          refine itT ⟨Γ4, G4, S5, ?_⟩
          cases hte : e Γ4 with
          | bad => rw [hte] at eq; rw [eq] at p1; exact p1.elim
          | exc z => rw [hte] at eq; rw [eq] at p1; exact p1.elim
          | val z =>
            rw [hte] at eq
            obtain ⟨av, Γ5⟩ := z
            have eq : compU vs g fr t e items (wipeG Γ1 vs) = ((R.ofO (avD av)).bind fun o => (compU vs g fr t e (items.drop (i + 1)) (wipeG Γ5 vs)).bind fun r => .val (o :: r.1, r.2)).bind fun z => .val (bs ++ z.1, z.2) := eq
            cases hav : avD av with
            | none => rw [hav] at eq; rw [eq] at p1; exact p1.elim
            | some o =>
            rw [hav] at eq
            have eq : compU vs g fr t e items (wipeG Γ1 vs) = ((compU vs g fr t e (items.drop (i + 1)) (wipeG Γ5 vs)).bind fun r => .val (o :: r.1, r.2)).bind fun z => .val (bs ++ z.1, z.2) := eq
            intro G5 H5 e5 yv S6 dy
            have dy : Dn X.K (rg G5 true) H5 yv o := by
              unfold avD at hav
              split at hav
              · cases hav; exact dy
              · cases hav
            have hE5 : G5.E = upd G1.E D (.lst vacc) := e5.e.trans hE4
            obtain ⟨S7, hHD, t7⟩ := (S6.wipeS vs).unpin hE5 hE0 (nol vacc).1 (nol vacc).2 (fun j => by rw [e5.i, hI4]; exact hID j)
            have hal : vacc.length = bs.length := d4.length
            refine ⟨vacc, hHD, by omega, ?_⟩
            obtain ⟨S8, t8⟩ := S7.pin (o := .lst (vacc ++ [yv])) del_same
            have hH : upd (PD.del H5 D) D (.lst (vacc ++ [yv])) = upd H5 D (.lst (vacc ++ [yv])) := by
              funext b
              by_cases q : b = D
              · subst q; rw [upd_same, upd_same]
              · rw [upd_ne q, upd_ne q, del_ne q]
            rw [hH] at S8 t8
            have t9 : TupLe H5 (upd H5 D (.lst (vacc ++ [yv]))) := t7.tr t8
            refine ⟨hlt, ⟨G5.H0, G5.P, G5.I, G5.N, upd G1.E D (.lst (vacc ++ [yv]))⟩, Γ5, vacc ++ [yv], bs ++ [o], ?_, ⟨(l4.tr e5.le).h0, (l4.tr e5.le).p, (l4.tr e5.le).n, (l4.tr e5.le).nn, (l4.tr e5.le).t.tr t9, S8.w, fun a o h => by show upd G1.E D _ a = _; rw [upd_ne (fun z => by rw [z, hE0] at h; cases h)]; exact h⟩, rfl, e5.i.trans hI4, ?_, ?_, ?_⟩
            · rw [← hw2]
              exact S8
            · exact ((e5.dna d4).append (.cons dy .nil)).mono (fun _ _ h => h) t9
            · rw [List.length_append]
              show bs.length + 1 ≤ i + 1
              omega
            · rw [eq, R.bind_assoc]
              congr 1
              funext q
              show R.val (bs ++ o :: q.1, q.2) = R.val (bs ++ [o] ++ q.1, q.2)
              rw [List.append_assoc]
              rfl
    · have ei : i = items.length := by omega
      subst ei
      refine .inl ⟨I.st G2 H2 l2, ?_⟩
      rw [List.drop_length] at eq
      have eq : compU vs g fr t e items (wipeG Γ1 vs) = .val (bs ++ [], wipeG s0 vs) := eq
      rw [List.append_nil] at eq
      rw [eq] at p1
      obtain ⟨S7, hHD, t7⟩ := S2.unpin hE2 hE0 (nol vacc).1 (nol vacc).2 (fun j => by rw [hI2]; exact hID j)
      have P := p1 ⟨G2.H0, G2.P, G2.I, G2.N, G1.E⟩ (PD.del H2 D) ⟨l2.h0, l2.p, hI2, rfl, l2.n, l2.nn, l2.t.tr t7, S7.w⟩ D vacc (S7.swap (wipe_length ..).symm fun j => ?_) del_same (d2.mono (fun _ _ h => h) t7)
      · rw [del_upd hHD] at P
        exact P
      · have hlen : ∀ ws : List Nat, (wipeG s0 ws).length = s0.length := fun ws => by
          induction ws with
          | nil => rfl
          | cons w ws ih => simp [wipeG, ih]
        by_cases hj : j ∈ vs
        · by_cases hjl : j < s0.length
          · exact .inr (wipeG_at hj hjl)
          · left
            obtain ⟨A7, Z7⟩ := S7
            have : s0.length = σ.length := by rw [← hlen vs, Z7.len, wipe_length]
            rw [List.getElem?_eq_none (by omega), List.getElem?_eq_none (by rw [wipe_length]; omega)]
        · exact .inl (wipe_out hj).symm
structure CompU (X : Cx) (W : WX) (sc : Scope) (N : List Str) (tg iter elt : Expr) (ifs : List Expr) (scope : Scope) (own : List (Str × Nat)) (ts : List Nat) (g : DG) (it : DI) (t : DT) (e : DF) : Prop where
  hin : CI X W tg iter it
  ok : blkC N sc scope own = true
  hg : ∀ (s : Shared) (H : Hp) (c : Addr) (cl : List (Str × Addr)) (fp : List Addr), CG (X.blk s H scope (compEnvC scope cl c X.env) fp) tg ts g
  ht : ∀ (s : Shared) (H : Hp) (c : Addr) (cl : List (Str × Addr)) (fp : List Addr), CTs (X.blk s H scope (compEnvC scope cl c X.env) fp) WF ifs t
  he : ∀ (s : Shared) (H : Hp) (c : Addr) (cl : List (Str × Addr)) (fp : List Addr), CE (X.blk s H scope (compEnvC scope cl c X.env) fp) WF elt e
  hts : ∀ j ∈ ts, j ∈ own.map (·.2)
  hs : ∀ x, foldedSetIterable iter X.env x = pure x
theorem cn_comp (C : Cf X W sc N) (h : CompU X W sc N tg iter elt ifs scope own ts g it t e) : CN X W (.ListComp elt [⟨tg, iter, ifs, 0⟩] scope pos) (nComp (own.map (·.2)) g it t e) := fun Γ => by
  have hB : BlkOk X.N X.env.scope scope own := by rw [C.hN, C.hsc]; exact blkOk_by h.ok
  refine pe_imp (pe_lc (g := fun v σ H Q => ∃ G Γ fr d Γ', Sta X.K G H σ Γ ∧ Dn X.K (rg G fr) H v d ∧ g fr d Γ = some Γ' ∧ ∀ σ' : St, List.length σ' = List.length σ → (∀ j, j ∉ ts → σ'[j]? = σ[j]?) → Sta X.K G H σ' Γ' → Q σ' H)
    (tt := fun σ H Q => ∃ Γ1, rdT X WF Γ1 (t Γ1) Prod.fst Prod.snd σ H Q) (te := fun σ H Q => ∃ Γ1, rdE X WF Γ1 (e Γ1) Prod.fst Prod.snd σ H Q)
    C.calm (by rw [C.hN]; exact C.nd) (h.hin Γ) hB (fun s H c cl fp => h.hg s H c cl fp) (fun s H c cl fp => ?_) (fun s H c cl fp => ?_) h.hs) fun σ H Q q => comp_rdU h.hts q
  · exact ⟨fun pins s' σ H' Q I ⟨z, q⟩ => (h.ht s H c cl fp z).run pins s' σ H' Q I q⟩
  · exact ⟨fun pins s' σ H' Q I ⟨z, q⟩ => (h.he s H c cl fp z).run pins s' σ H' Q I q⟩
theorem set_lc (C : Cf X W sc N) (hk : sc.kind = .function) {i : Nat} {y : Str} {py spos : Pos} (hN : N[i]? = some y) (hy : lclB sc y = true) (hl : (py.line == pos.line) = true) (hnn : (scope.names.any fun (n, k) => n == y && (k == .local || k == .cell)) = false)
    (h : CompU X W sc N tg iter elt ifs scope own ts g it t e) (Γ : List Sl) : PS X (.Assign [.Name y py] (.ListComp elt [⟨tg, iter, ifs, 0⟩] scope pos) spos) (fun D σ H => rdF X W Γ (nComp (own.map (·.2)) g it t e Γ) Prod.fst Prod.snd σ H fun v H1 => D.nx (σ.set i (some v)) H1) := by
  have hB : BlkOk X.N X.env.scope scope own := by rw [C.hN, C.hsc]; exact blkOk_by h.ok
  have hyl : X.env.scope.names.lookup y = some .local := by
    rw [C.hsc]
    unfold lclB at hy
    split at hy
    · assumption
    · cases hy
  refine ps_imp (ps_setLc (g := fun v σ H Q => ∃ G Γ fr d Γ', Sta X.K G H σ Γ ∧ Dn X.K (rg G fr) H v d ∧ g fr d Γ = some Γ' ∧ ∀ σ' : St, List.length σ' = List.length σ → (∀ j, j ∉ ts → σ'[j]? = σ[j]?) → Sta X.K G H σ' Γ' → Q σ' H)
    (tt := fun σ H Q => ∃ Γ1, rdT X WF Γ1 (t Γ1) Prod.fst Prod.snd σ H Q) (te := fun σ H Q => ∃ Γ1, rdE X WF Γ1 (e Γ1) Prod.fst Prod.snd σ H Q)
    C.calm (by rw [C.hN]; exact C.nd) (by rw [C.hN]; exact hN) hyl (sw_true (by rw [C.hsc]; exact hk) hyl hl hnn) (h.hin Γ) hB (fun s H c cl fp => h.hg s H c cl fp) (fun s H c cl fp => ?_) (fun s H c cl fp => ?_) h.hs) fun D σ H q => comp_rdU h.hts q
  · exact ⟨fun pins s' σ H' Q I ⟨z, q⟩ => (h.ht s H c cl fp z).run pins s' σ H' Q I q⟩
  · exact ⟨fun pins s' σ H' Q I ⟨z, q⟩ => (h.he s H c cl fp z).run pins s' σ H' Q I q⟩
theorem c1_lcC (C : Cf X W sc N) (hk : sc.kind = .function) (i : Nat) {y : Str} {py spos : Pos} (hN : N[i]? = some y) (hy : lclB sc y = true) (h : CompU X W sc N tg iter elt ifs scope own ts g it t e) (hl : (py.line == pos.line) = true := by rfl) (hnn : (scope.names.any fun (n, k) => n == y && (k == .local || k == .cell)) = false := by decide +kernel) :
    C1 X W (.Assign [.Name y py] (.ListComp elt [⟨tg, iter, ifs, 0⟩] scope pos) spos) (bSetC i (nL (nComp (own.map (·.2)) g it t e))) := fun Γ =>
  ps_imp (set_lc C hk hN hy hl hnn h Γ) fun D σ H ⟨G, S, p⟩ => by
    have p : Pst X W G H σ (((nComp (own.map (·.2)) g it t e Γ).bind fun z => .val (.lst z.1, z.2)).bind fun z : Cl × List Sl => .val (Fw.nx, z.2.set i (.own z.1))) (fun z G' H' => FinU X.K G' H' D z.2 z.1) := p
    rw [R.bind_assoc] at p
    refine ⟨G, S, (Pst.bind p).imp fun z G1 H1 e1 p1 q vs S1 hq hd => ?_⟩
    obtain ⟨S2, e2⟩ := S1.putC i (newc_lst hq hd)
    exact p1 G1 _ e2 _ S2
theorem c1_lcD (C : Cf X W sc N) (hk : sc.kind = .function) (i : Nat) {y : Str} {py spos : Pos} (hN : N[i]? = some y) (hy : lclB sc y = true) (h : CompU X W sc N tg iter elt ifs scope own ts g it t e) (hl : (py.line == pos.line) = true := by rfl) (hnn : (scope.names.any fun (n, k) => n == y && (k == .local || k == .cell)) = false := by decide +kernel) :
    C1 X W (.Assign [.Name y py] (.ListComp elt [⟨tg, iter, ifs, 0⟩] scope pos) spos) (bSet i (dOfN (nComp (own.map (·.2)) g it t e))) := fun Γ =>
  ps_imp (set_lc C hk hN hy hl hnn h Γ) fun D σ H ⟨G, S, p⟩ => by
    have p : Pst X W G H σ (((nComp (own.map (·.2)) g it t e Γ).bind fun z => .val (.d true (.list z.1), z.2)).bind fun z : AV × List Sl => (R.ofO (asSl z.1)).bind fun s => .val (Fw.nx, z.2.set i s)) (fun z G' H' => FinU X.K G' H' D z.2 z.1) := p
    rw [R.bind_assoc] at p
    refine ⟨G, S, (Pst.bind p).imp fun z G1 H1 e1 p1 q vs S1 hq hd => ?_⟩
    obtain ⟨G2, S2, e2, d2⟩ := (newc_lst hq hd).frz S1 rfl
    exact p1 G2 _ e2 _ (S2.put i d2)
end
end PD
set_option Elab.async false
set_option linter.all false
set_option maxRecDepth 100000
set_option maxHeartbeats 4000000
set_option autoImplicit false
namespace PD
open PySem PySem.Spec PyProof.Rows L2 HotX
open L2H (RoomH HotC Hot1 PIH PIEH TurnH)
section
variable {prog : Program} {w : World} {A : Around} {E : Value → Shared → Prop} {s : Shared}
end
end PD
set_option Elab.async false
set_option linter.all false
set_option maxRecDepth 100000
set_option maxHeartbeats 4000000
set_option autoImplicit false
namespace PD
open PySem PySem.Spec PyProof.Rows L2 HotX
open L2H (RoomH HotC Hot1 PIH PIEH TurnH)
section
variable {P : Program} {w : World} {K : PySem.W.Frag} {tg : Expr} {elts : List Expr} {kk : Nat} {tpos : Pos}
end
section
variable {X : Cx} {tg e : Expr} {te : TE} {ta : TA} {elts : List Expr} {kk : Nat} {p pos tpos : Pos}
end
end PD
set_option Elab.async false
set_option linter.all false
set_option maxRecDepth 100000
set_option maxHeartbeats 4000000
set_option autoImplicit false
namespace PD
open PySem PySem.Spec PyProof.Rows L2 HotX
section
variable {P : Program} {w : World} {A : Around} {E : Value → Shared → Prop} {s : Shared}
section
variable {x it a p : Addr} {es : Array (Int × Value)} {ep : Nat} {t : SetTable} {i sl : Nat} {first : Value}
end
structure TurnsAny (P : Program) (w : World) (I : Addr) (fp : List Addr) (n : Nat) (Pv : Nat → Value → Prop) (St : Nat → Heap → Prop) : Prop where
  frame : ∀ i h h', St i h → (∀ b ∈ fp, ∀ o, h.get? b = some o → h'.get? b = some o) → St i h'
  item : ∀ (A : Around) i (s : Shared) (Q : Option Value → Shared → Prop) (E : Value → Shared → Prop), i < n → St i s.heap →
    (∀ v h' tk, Pv i v → St (i + 1) h' → Heap.SameBut I s.heap h' → Q (some v) { s with heap := h', toks := tk }) → wpAny (model P w) A (pyNext (.ref I)) Q E s
  done : ∀ (A : Around) (x : Addr) (s : Shared) (Q : Option Value → Shared → Prop) (E : Value → Shared → Prop), HotAt A x s.heap → St n s.heap →
    (∀ h', Heap.ExtBut I s.heap h' → Q none { s with heap := h' }) → wpAny (model P w) A (pyNext (.ref I)) Q E s
  self : ∀ (A : Around) i (s : Shared) (Q : Value → Shared → Prop) (E : Value → Shared → Prop), St i s.heap → Q (.ref I) s → wpAny (model P w) A (pyIter (.ref I)) Q E s
  mem : I ∈ fp
  apart : ∀ (A : Around) (x : Addr) (s : Shared) i, HotAt A x s.heap → St i s.heap → x ≠ I
section
variable {a I p : Addr} {es : Array (Int × Value)} {ep : Nat} {t : SetTable}
end
end
end PD
set_option Elab.async false
set_option linter.all false
set_option maxRecDepth 100000
set_option maxHeartbeats 4000000
set_option autoImplicit false
namespace PD
open PySem PySem.Spec PyProof.Rows L2 HotX
section
variable {P : Program} {w : World} {A : Around} {E : Value → Shared → Prop} {s : Shared} {a x : Addr} {es : Array (Int × Value)} {ep : Nat} {t : SetTable}
structure SetItH (P : Program) (w : World) (s : Shared) (a : Addr) (es : Array (Int × Value)) (z : Shared) (I : Addr) (fp : List Addr) (St : Nat → Heap → Prop) (out : List Value) (Pv : Nat → Value → Prop) : Prop where
  keep : ∀ b o, s.heap.get? b = some o → z.heap.get? b = some o
  gens : z.gens = s.gens
  os : z.os = s.os
  new : s.heap.objs.size ≤ I
  foot : ∀ b ∈ fp, b = a ∨ s.heap.objs.size ≤ b
  perm : out.Perm (es.toList.map (·.2))
  turns : TurnsAny P w I fp out.length Pv St
  vals : ∀ j v, Pv j v → out[j]? = some v
  first : St 0 z.heap
theorem TurnsAny.as {I : Addr} {fp : List Addr} {n m : Nat} {Pv : Nat → Value → Prop} {St : Nat → Heap → Prop} (T : TurnsAny P w I fp n Pv St) (e : n = m) : TurnsAny P w I fp m Pv St := e ▸ T
end
end PD
set_option Elab.async false
set_option linter.all false
set_option maxRecDepth 100000
set_option maxHeartbeats 4000000
set_option autoImplicit false
namespace PD
open PySem L2
def cellL (Γ : List Sl) (i : Nat) : Option (Bool × List PyData) := match Γ[i]? with
  | some (.own (.lst ds)) => some (false, ds)
  | some (.io (.lst ds)) => some (true, ds)
  | _ => none
theorem cellL_ok {Γ : List Sl} {i : Nat} {z : Bool × List PyData} (h : cellL Γ i = some z) : Γ[i]? = some (mkS z.1 (.lst z.2)) := by
  unfold cellL at h
  split at h
  · cases h; exact ‹_›
  · cases h; exact ‹_›
  · cases h
section
variable {X : Cx} {W : WX} {sc : Scope} {N : List Str} {o e e2 : Expr} {es : List Expr} {apos cpos pos p : Pos} {k : DA} {f g : DF}
def dLm (i : Nat) (q : List PyData → List AV → R (PyData × List PyData)) (k : DA) : DF := fun Γ => (R.ofO (cellL Γ i)).bind fun _ => (k Γ).bind fun z => (R.ofO (cellL z.2 i)).bind fun c => (q c.2 z.1).bind fun y => .val (.d true y.1, z.2.set i (mkS c.1 (.lst y.2)))
theorem evp_cell (C : Cf0 X W sc N) {Γ : List Sl} {i : Nat} {x : Str} {io : Bool} {c : Cl} (h : Γ[i]? = some (mkS io c)) (hN : N[i]? = some x) (hv : visB sc x = true) (hd : (x == ("__debug__" : Str)) = false := by decide +kernel) (hcd : (x == ("__classdict__" : Str)) = false := by decide +kernel) : EvP X W Γ (.Name x p) (.s i) := by
  cases io with
  | true => exact evp_slot C (.inr (.inl h)) hN hv hd hcd
  | false => exact evp_slot C (.inl h) hN hv hd hcd
theorem ce_lm (C : Cf0 X W sc N) {name : Str} {id : String} {r : V → List V → Hp → VK → Prop} (q : List PyData → List AV → R (PyData × List PyData)) (slot : Slot "list" name id) (hty : typeOf (.builtin id) = pure (.type "method_descriptor")) (hm : MtR X id r)
    (hk : ∀ as ds G H σ p ws Q, H p = some (.lst ws) → DnA X.K (rg G true) H ws ds → (∀ vs, AVs X.K G H σ vs as → (∀ y, q ds as = .val y → ∃ ws' v, DnA X.K (rg G true) H ws' y.2 ∧ Dn X.K (rg G true) H v y.1 ∧ (Q v (upd H p (.lst ws')) → r (.ref p) vs H Q))))
    (i : Nat) {x : Str} (hN : N[i]? = some x) (hv : visB sc x = true) (ha : CA X W (e :: es) k) (hq : ∀ ds as z, q ds as ≠ .exc z)
    (hd : (x == ("__debug__" : Str)) = false := by decide +kernel) (hcd : (x == ("__classdict__" : Str)) = false := by decide +kernel)
    (hfew : ((backTo cpos (starEach (e :: es) X.env)).all (fun x => !x.1) && (backToKw cpos (keywordEach [] X.env)).all (fun x => x.1.isSome) && decide ((e :: es).length + ([] : List Keyword).length + (if ([] : List Keyword).isEmpty then 0 else 1) < 30)) = true := by rfl)
    (hline : (apos.endLine == cpos.line) = true := by rfl) (hs : starEach (e :: es) X.env = (false, eval e X.env) :: starEach es X.env := by rfl) (hplain : (backTo cpos (starEach es X.env)).any (·.1) = false := by rfl)
    (hbase : attributeBase (.Name x p) name X.env (eval (.Name x p) X.env) = eval (.Name x p) X.env := by rfl) :
    CE X W (.Call (.Attribute (.Name x p) name apos) (e :: es) [] cpos) (dLm i q k) := fun Γ => by
  unfold dLm
  cases h0 : cellL Γ i with
  | none => exact ev_bad
  | some c0 =>
    have ho := evp_cell (W := W) (p := p) C (cellL_ok h0) hN hv hd hcd
    refine pe_imp (pe_bm PySem.F.plainAttrs_list slot hty hm ho (ha Γ) hbase hfew hline hs hplain) fun σ H Q ⟨G, S, pp⟩ => ⟨G, S, fun G1 H1 e1 v S1 hx => ?_⟩
    obtain ⟨l, vs, g1, g2, g3, _⟩ := S1.chg i c0.1 (cellL_ok h0)
    have hx : σ[i]? = some (some v) := hx
    rw [g1] at hx
    cases hx
    have pp : Pst X W G H σ ((k Γ).bind fun z => (R.ofO (cellL z.2 i)).bind fun c => (q c.2 z.1).bind fun y => .val (AV.d true y.1, z.2.set i (mkS c.1 (.lst y.2)))) _ := pp
    refine ⟨.inl ⟨rfl, vs, SqL.of g2⟩, G1, S1, (Pst.bind (Pst.ext pp e1)).imp fun z G2 H2 e2 p2 ws S2 hw => ?_⟩
    obtain ⟨c, hc, p2⟩ := Pst.ofO p2
    obtain ⟨l', vs', k1, k2, k3, k4⟩ := S2.chg i c.1 (cellL_ok hc)
    rw [g1] at k1
    cases k1
    cases hy : q c.2 z.1 with
    | bad => rw [hy] at p2; exact p2.elim
    | exc z => exact absurd hy (hq _ _ _)
    | val y =>
      rw [hy] at p2
      obtain ⟨ws', v, m1, m2, m3⟩ := hk z.1 c.2 G2 H2 σ l vs' Q k2 k3 ws hw y hy
      obtain ⟨S3, e3⟩ := k4 ws' y.2 m1
      exact m3 (p2 G2 _ e3 v S3 (e3.dn m2))
def qAppend (ds : List PyData) : List AV → R (PyData × List PyData)
  | [.d true y] => gq (ltS ds) (.none, ds ++ [y])
  | _ => .bad
theorem gq_val {α : Type} {c : Bool} {a b : α} (h : gq c a = .val b) : c = true ∧ b = a := by
  cases c with
  | false => cases h
  | true => cases h; exact ⟨rfl, rfl⟩
theorem gq_nox {α : Type} {c : Bool} {a : α} {z : Exn} : gq c a ≠ .exc z := by cases c <;> intro h <;> cases h
theorem ce_append (C : Cf0 X W sc N) (i : Nat) {x : Str} (hN : N[i]? = some x) (hv : visB sc x = true) (ha : CE X W e f) (hs : starEach [e] X.env = (false, eval e X.env) :: starEach [] X.env := by rfl) (hd : (x == ("__debug__" : Str)) = false := by decide +kernel) (hcd : (x == ("__classdict__" : Str)) = false := by decide +kernel) (hline : (apos.endLine == cpos.line) = true := by rfl)
    (hbase : attributeBase (.Name x p) "append" X.env (eval (.Name x p) X.env) = eval (.Name x p) X.env := by rfl) : CE X W (.Call (.Attribute (.Name x p) "append" apos) [e] [] cpos) (dLm i qAppend (dAc (dFrz f) dA0)) := by
  refine ce_lm C qAppend PySem.F.slot_list_append PySem.F.type_list_append mt_append (fun as ds G H σ p ws Q hp hd vs av y hy => ?_) i hN hv (ca_cons (ce_frz ha) ca_nil hs) (fun ds as z h => ?_) hd hcd (by rw [hs]; rfl) hline hs rfl hbase
  · unfold qAppend at hy
    split at hy
    · rename_i z
      obtain ⟨hc, rfl⟩ := gq_val hy
      obtain ⟨v, rfl, hv⟩ := avs_one av
      have hv : Dn X.K (rg G true) H v z := hv
      exact ⟨ws ++ [v], .non, hd.append (.cons hv .nil), .non, fun q => ⟨p, ws, v, rfl, rfl, hp, by rw [hd.length]; exact of_decide_eq_true hc, q⟩⟩
    · cases hy
  · unfold qAppend at h
    split at h
    · exact gq_nox h
    · cases h
def insI {β : Type} (xs : List β) (n : Int) (y : β) : List β := xs.take n.toNat ++ [y] ++ xs.drop n.toNat
def cIns {β : Type} (xs : List β) (n : Int) : Bool := decide (xs.length < sizeLine) && decide (0 ≤ n ∧ n < 2 ^ 63)
def qInsert (ds : List PyData) : List AV → R (PyData × List PyData)
  | [.d _ (.int n), .d true y] => gq (cIns ds n) (.none, insI ds n y)
  | _ => .bad
def qPop (ds : List PyData) (_ : List AV) : R (PyData × List PyData) := (R.ofO ds.getLast?).bind fun y => .val (y, ds.dropLast)
end
end PD
set_option Elab.async false
set_option linter.all false
set_option maxRecDepth 100000
set_option maxHeartbeats 4000000
set_option autoImplicit false
namespace PD
open PySem L2
theorem Sta.chg1 {K : PySem.W.Frag} {G : Gh} {H : Hp} {σ : St} {Γ : List Sl} {c : Cl} (s : Sta K G H σ Γ) (i : Nat) (io : Bool) (hi : Γ[i]? = some (mkS io c)) :
    ∃ v fp, σ[i]? = some (some v) ∧ c.ok K (rg G true) H v fp ∧ ∀ p o o' c', fp = [p] → H p = some o → (∀ xs, o ≠ .tup xs) → (∀ x y, o ≠ .frz x y) → c'.ok K (rg G true) (upd H p o') v [p] → Sta K G (upd H p o') σ (Γ.set i (mkS io c')) ∧ Ext G H G (upd H p o') := by
  obtain ⟨A, S⟩ := s
  have key : ∃ v, σ[i]? = some (some v) ∧ c.ok K (RgN G) H v (A i) ∧ ∀ (H' : Hp) (c' : Cl) (fp' : List Addr), c'.ok K (RgN G) H' v fp' → (∀ p ∈ fp', p ∈ A i) → SlOk K G H' i σ[i]? fp' (mkS io c') := by
    cases io with
    | true =>
      obtain ⟨v, h1, h2, h3⟩ := S.sl i _ hi
      exact ⟨v, h1, h3, fun H' c' fp' k _ => ⟨v, h1, h2, k⟩⟩
    | false =>
      obtain ⟨v, h1, h2, h3⟩ := S.sl i _ hi
      exact ⟨v, h1, h3, fun H' c' fp' k q => ⟨v, h1, fun p hp => h2 p (q p hp), k⟩⟩
  obtain ⟨v, h1, hc, mk⟩ := key
  refine ⟨v, A i, h1, hc, fun p o o' c' hfp hp ht hz hc' => ?_⟩
  have hpA : p ∈ A i := by rw [hfp]; simp
  have hN : G.N p = none := (S.al i p hpA).2.1
  have g : Grow G H G.N (upd H p o') [p] := grow_mut S.w hp hN ht hz
  refine S.step (i := i) (fp' := [p]) (s' := mkS io c') (σ' := σ) g (fun q hq => ?_) (fun j hj => rfl) rfl (fun hlt => mk _ c' [p] hc' fun q hq => ?_) (fun q hq => ?_)
  · have : q = p := by simpa using hq
    rw [this]; exact hpA
  · have : q = p := by simpa using hq
    rw [this]; exact hpA
  · have : q = p := by simpa using hq
    rw [this]
    exact ⟨by rw [upd_same]; simp, hN, .inl hpA⟩
section
variable {X : Cx} {W : WX} {sc : Scope} {N : List Str} {a b e e2 o : Expr} {es : List Expr} {apos cpos pos p : Pos} {k : DA} {f g : DF} {s : Stmt}
theorem u1 (C : Cf0 X W sc N) : X.A.units + 1 < cLine := by have := C.hu2; omega
theorem u65 (C : Cf0 X W sc N) : X.A.units + 65 < cLine := by have := C.hu2; omega
theorem ce_insert (C : Cf0 X W sc N) (i : Nat) {x : Str} (hN : N[i]? = some x) (hv : visB sc x = true) (ha : CE X W e f) (hb : CE X W e2 g) (hs : starEach [e, e2] X.env = (false, eval e X.env) :: starEach [e2] X.env := by rfl) (hs2 : starEach [e2] X.env = (false, eval e2 X.env) :: starEach [] X.env := by rfl) (hd : (x == ("__debug__" : Str)) = false := by decide +kernel) (hcd : (x == ("__classdict__" : Str)) = false := by decide +kernel) (hline : (apos.endLine == cpos.line) = true := by rfl)
    (hbase : attributeBase (.Name x p) "insert" X.env (eval (.Name x p) X.env) = eval (.Name x p) X.env := by rfl) : CE X W (.Call (.Attribute (.Name x p) "insert" apos) [e, e2] [] cpos) (dLm i qInsert (dAc f (dAc (dFrz g) dA0))) := by
  refine ce_lm C qInsert PySem.F.slot_list_insert PySem.F.type_list_insert mt_insert (fun as ds G H σ p ws Q hp hd vs av y hy => ?_) i hN hv (ca_cons ha (ca_cons (ce_frz hb) ca_nil hs2) hs) (fun ds as z h => ?_) hd hcd (by rw [hs, hs2]; rfl) hline hs (by rw [hs2]; rfl) hbase
  · unfold qInsert at hy
    split at hy
    · rename_i n z
      obtain ⟨hc, rfl⟩ := gq_val hy
      obtain ⟨u, v, rfl, hu, hv⟩ := avs_two av
      have hv : Dn X.K (rg G true) H v z := hv
      unfold cIns at hc
      rw [Bool.and_eq_true] at hc
      have c2 : 0 ≤ n ∧ n < 2 ^ 63 := of_decide_eq_true hc.2
      exact ⟨_, .non, ((hd.take n.toNat).append (.cons hv .nil)).append (hd.drop n.toNat), .non, fun q => ⟨p, ws, n, v, rfl, by rw [dn_int hu], hp, by rw [hd.length]; exact of_decide_eq_true hc.1, c2.1, c2.2, q⟩⟩
    · cases hy
  · unfold qInsert at h
    split at h
    · exact gq_nox h
    · cases h
def rSetD : V → V → V → Hp → (Hp → Prop) → Prop := fun o i v H Q => ∃ a H', o = .ref a ∧ DPut H a i v H' ∧ Q H'
theorem set_dict (hu : X.A.units + 1 < cLine) : PSet X rSetD := by
  intro pins s σ H o i v ov iv u Q I ro ri rv h
  obtain ⟨a, H', rfl, g, q⟩ := h
  cases ro
  exact d_setItem hu I g ri rv fun s' I' => ⟨H', I', q⟩
theorem set_or {t1 t2 : V → V → V → Hp → (Hp → Prop) → Prop} (h1 : PSet X t1) (h2 : PSet X t2) : PSet X (fun o i v H Q => t1 o i v H Q ∨ t2 o i v H Q) := fun pins s σ H o i v ov iv u Q I ro ri rv h => h.elim (h1 pins s σ H o i v ov iv u Q I ro ri rv) (h2 pins s σ H o i v ov iv u Q I ro ri rv)
def dKey : PyData → Option Key
  | .int i => some (.inl i)
  | .str x => some (.inr x)
  | _ => none
def dKeys : List PyData → Option (List Key)
  | [] => some []
  | d :: ds => (dKey d).bind fun k => (dKeys ds).map (k :: ·)
theorem dKey_eq {d : PyData} {k : Key} (h : dKey d = some k) : d = keyD k := by
  cases d <;> simp only [dKey] at h <;> cases h <;> rfl
theorem dKey_ok {K : PySem.W.Frag} {G : Rg} {H : Hp} {v : V} {d : PyData} {k : Key} (h : dKey d = some k) (hv : Dn K G H v d) : v = kV k := by
  cases d <;> simp only [dKey] at h <;> cases h
  · exact dn_int hv
  · exact dn_str hv
theorem dKeys_ok {K : PySem.W.Frag} {G : Rg} {H : Hp} : ∀ {ds : List PyData} {ks : List Key} {vs : List V}, dKeys ds = some ks → DnA K G H vs ds → vs = ks.map kV
  | [], _, _, h, .nil => by cases h; rfl
  | d :: ds, ks, _, h, .cons q r => by
    unfold dKeys at h
    cases e : dKey d with
    | none => rw [e] at h; cases h
    | some k =>
      rw [e] at h
      have h : (dKeys ds).map (k :: ·) = some ks := h
      cases e2 : dKeys ds with
      | none => rw [e2] at h; cases h
      | some js =>
        rw [e2] at h
        cases h
        rw [dKey_ok e q, dKeys_ok e2 r]
        rfl
theorem dKeys_eq : ∀ {ds : List PyData} {ks : List Key}, dKeys ds = some ks → ds = ks.map keyD
  | [], _, h => by cases h; rfl
  | d :: ds, ks, h => by
    unfold dKeys at h
    cases e : dKey d with
    | none => rw [e] at h; cases h
    | some k =>
      rw [e] at h
      have h : (dKeys ds).map (k :: ·) = some ks := h
      cases e2 : dKeys ds with
      | none => rw [e2] at h; cases h
      | some js => rw [e2] at h; cases h; rw [dKey_eq e, dKeys_eq e2]; rfl
end
end PD
set_option Elab.async false
set_option linter.all false
set_option maxRecDepth 100000
set_option maxHeartbeats 4000000
set_option autoImplicit false
namespace PD
open PySem L2
theorem DnA.fresh {K : PySem.W.Frag} {G : Gh} {H : Hp} {fr : Bool} {vs : List V} {ds : List PyData} (h : DnA K (rg G fr) H vs ds) (hf : (fr || flat.flatA ds) = true) : DnA K (rg G true) H vs ds := by
  cases fr with
  | true => exact h
  | false => exact h.free (by simpa using hf)
section
variable {X : Cx} {W : WX} {sc : Scope} {N : List Str} {a b c e e2 o : Expr} {es : List Expr} {apos cpos pos p p2 : Pos} {k : DA} {f g : DF} {s : Stmt}
def rCatL (K : PySem.W.Frag) : R2 := fun x y H Q => ∃ l b xs zs, x = .ref l ∧ y = .ref b ∧ SqL K H l xs ∧ SqL K H b zs ∧ xs.length + zs.length ≤ sizeLine ∧ ∀ p, H p = none → Q (.ref p) (upd H p (.lst (xs ++ zs)))
theorem op_catL : OpR X (binaryOp .Add) (rCatL X.K) := by
  intro pins s σ H x y v u Q I rx ry h
  obtain ⟨l, b, xs, zs, rfl, rfl, hH, hB, hz, q⟩ := h
  cases rx
  cases ry
  obtain ⟨its, r, ⟨⟨cls, dd, data, sl⟩, n, e, hc, hd, hs⟩, z⟩ := I.list hH
  obtain ⟨its2, r2, ⟨⟨cls2, dd2, data2, sl2⟩, n2, e2, hc2, hd2, hs2⟩, z2⟩ := I.list hB
  have hc : cls = .type "list" := hc
  have hs : data = .seq its.toArray n := hs
  have hc2 : cls2 = .type "list" := hc2
  have hs2 : data2 = .seq its2.toArray n2 := hs2
  subst hc hs hc2 hs2
  have hl := r.length
  have hl2 := r2.length
  have ea : its.toArray ++ its2.toArray = (its ++ its2).toArray := by simp
  refine PySem.concat_meets ⟨_, e, rfl⟩ ⟨_, e2, rfl⟩ PySem.noFill_list_add PySem.seq_list_add PySem.F.slot_list_add PySem.F.entry_list_add (PySem.F.args_list_add_2 _ _) (PyProof.Rows.list_addW l b its.toArray its2.toArray n n2 dd dd2 sl sl2 (by rw [List.size_toArray, List.size_toArray]; omega)) ⟨e, e2, ?_⟩
  rw [ea]
  exact ⟨.ref _, _, I.lnew (t' := s.toks) (r.append r2) (by rw [List.length_append]; omega), rfl, q _ I.fresh⟩
def lsA (Γ : List Sl) : AV → Option (List PyData)
  | .d fr (.list ds) => if fr || flat.flatA ds then some ds else none
  | .s j => match rdD Γ (.s j) with
    | some (.list ds) => some ds
    | _ => none
  | _ => none
theorem lsA_ok {Γ : List Sl} {x : AV} {ds : List PyData} {G : Gh} {H : Hp} {σ : St} {v : V} (h : lsA Γ x = some ds) (S : Sta X.K G H σ Γ) (hv : AVok X.K G H σ v x) : ∃ l xs, v = .ref l ∧ SqL X.K H l xs ∧ DnA X.K (rg G true) H xs ds := by
  unfold lsA at h
  split at h
  · rename_i fr ds'
    by_cases hc : (fr || flat.flatA ds') = true
    · rw [if_pos hc] at h
      cases h
      obtain ⟨l, xs, rfl, g1, g2⟩ := dn_list hv
      exact ⟨l, xs, rfl, (g1.mono (S.w.rgl _)).sq, g2.fresh hc⟩
    · rw [if_neg hc] at h; cases h
  · rename_i j
    split at h
    · cases h
      obtain ⟨l, xs, rfl, g1, g2⟩ := S.slotL ‹_› hv
      exact ⟨l, xs, rfl, SqL.of g1, g2⟩
    · cases h
  · cases h
def dCat (f g : DF) : DN := fun Γ => (f Γ).bind fun x => (g x.2).bind fun y => (R.ofO (lsA y.2 x.1)).bind fun ds => (R.ofO (lsA y.2 y.1)).bind fun es => gq (szB (ds ++ es)) (ds ++ es, y.2)
theorem cn_cat (ha : CE X W a f) (hb : CE X W b g) : CN X W (.BinOp a .Add b pos) (dCat f g) := fun Γ =>
  pe_imp (pe_op op_catL (ha Γ) (pe_any fun x : AV × List Sl => hb x.2)) fun σ H Q ⟨G, S, q⟩ => ⟨G, S, (Pst.bind q).imp fun x G1 H1 e1 q1 v S1 hv => ⟨x, G1, S1, (Pst.bind q1).imp fun y G2 H2 e2 q2 u S2 hu => by
    obtain ⟨ds, h1, q2⟩ := Pst.ofO q2
    obtain ⟨es, h2, q2⟩ := Pst.ofO q2
    obtain ⟨hc, q3⟩ := Pst.gq S2.w q2
    obtain ⟨l, xs, rfl, g1, g2⟩ := lsA_ok h1 S2 (hv.ext e2)
    obtain ⟨l2, ys, rfl, g3, g4⟩ := lsA_ok h2 S2 hu
    refine ⟨l, l2, xs, ys, rfl, rfl, g1, g3, ?_, fun p hp => q3 p _ S2 hp (g2.append g4)⟩
    have := of_decide_eq_true hc
    rw [g2.length, g4.length]
    simpa using this⟩⟩
def cutD {α : Type} (ds : List α) (lo hi : Option Int) : List α := (ds.drop (HT.sIx ds.length 0 lo)).take (HT.sIx ds.length ds.length hi - HT.sIx ds.length 0 lo)
theorem DnA.cut {K : PySem.W.Frag} {G : Rg} {H : Hp} {vs : List V} {ds : List PyData} (h : DnA K G H vs ds) (lo hi : Option Int) : DnA K G H (cutV vs lo hi) (cutD ds lo hi) := by
  unfold cutV cutD
  rw [h.length]
  exact (h.drop _).take _
abbrev DO := List Sl → R (Option Int × List Sl)
def rdO (X : Cx) (W : WX) (Γ : List Sl) (m : R (Option Int × List Sl)) : TO := fun σ H Q => ∃ G, Sta X.K G H σ Γ ∧ Pst X W G H σ m fun r G' H' => Sta X.K G' H' σ r.2 → Q r.1 H'
def CO (X : Cx) (W : WX) (e : Option Expr) (f : DO) : Prop := ∀ Γ, PO X e (rdO X W Γ (f Γ))
theorem po_imp {e : Option Expr} {t t' : TO} (h : PO X e t) (k : ∀ σ H Q, t' σ H Q → t σ H Q) : PO X e t' := ⟨fun pins s σ H Q I q => h.run pins s σ H Q I (k σ H Q q)⟩
theorem po_any {e : Option Expr} {α : Type} {t : α → TO} (h : ∀ x, PO X e (t x)) : PO X e (fun σ H Q => ∃ x, t x σ H Q) := ⟨fun pins s σ H Q I ⟨x, q⟩ => (h x).run pins s σ H Q I q⟩
def oNone : DO := fun Γ => .val (none, Γ)
theorem co_none : CO X W none oNone := fun Γ => po_imp po_none fun σ H Q ⟨G, S, q⟩ => q G H (Ext.rf S.w) S
def oSome (f : DF) : DO := fun Γ => (f Γ).bind fun z => (R.ofO (intA z.1)).bind fun i => .val (some i, z.2)
theorem co_some (ha : CE X W e f) : CO X W (some e) (oSome f) := fun Γ => po_imp (po_some (ha Γ)) fun σ H Q ⟨G, S, q⟩ => ⟨G, S, (Pst.bind q).imp fun x G1 H1 e1 q1 v S1 hv => by
  obtain ⟨i, hi, q1⟩ := Pst.ofO q1
  exact ⟨i, intA_ok hi hv, q1 G1 H1 (Ext.rf S1.w) S1⟩⟩
theorem cut_whole {α : Type} (xs : List α) {lo hi : Option Int} (h : HT.sIx xs.length 0 lo = 0 ∧ HT.sIx xs.length xs.length hi = xs.length) : cutD xs lo hi = xs := by
  unfold cutD
  rw [h.1, h.2, List.drop_zero, Nat.sub_zero, List.take_length]
end
end PD
set_option Elab.async false
set_option linter.all false
set_option maxRecDepth 100000
set_option maxHeartbeats 4000000
set_option autoImplicit false
namespace PD
open PySem L2
theorem eqK_keyD (k k' : Key) : eqK (keyD k) (keyD k') = decide (k = k') := by
  cases k <;> cases k' <;> simp [keyD, eqK]
theorem eqKs_keyD : ∀ (k k' : List Key), eqKs (k.map keyD) (k'.map keyD) = decide (k = k')
  | [], [] => rfl
  | [], _ :: _ => by simp [eqKs]
  | _ :: _, [] => by simp [eqKs]
  | x :: xs, y :: ys => by
    simp only [List.map_cons, eqKs, eqK_keyD, eqKs_keyD xs ys, List.cons.injEq]
    by_cases h : x = y <;> by_cases h2 : xs = ys <;> simp [h, h2]
def kOk : Dk → PyData → Bool
  | .k, d => (dKey d).isSome
  | .t, .tuple ks => (dKeys ks).isSome
  | .t, _ => false
  | .n, _ => false
def putD (kvs : List (PyData × PyData)) (k v : PyData) : List (PyData × PyData) := if kvs.any (fun z => eqK z.1 k) then kvs.map (fun z => if eqK z.1 k then (z.1, v) else z) else kvs ++ [(k, v)]
def kindD : List (PyData × PyData) → Option Dk
  | (.int _, _) :: _ => some .k
  | (.str _, _) :: _ => some .k
  | (.tuple _, _) :: _ => some .t
  | _ => none
theorem kindD_ok {t : Dk} {o : HO} {vs : List V} {kvs : List (PyData × PyData)} {t' : Dk} (h : kindD kvs = some t') {a : Addr} (ho : DcO t a o (kvs.map (·.1)) vs) : t = t' := by
  cases t with
  | k =>
    obtain ⟨ks, rfl, h1, _⟩ := ho
    cases kvs with
    | nil => cases h
    | cons z r =>
      cases ks with
      | nil => cases h1
      | cons y s =>
        obtain ⟨d, v⟩ := z
        have h1 := (List.cons.inj h1).1
        have h1 : d = keyD y.1 := h1
        subst h1
        cases hy : y.1 <;> rw [hy] at h <;> cases h <;> rfl
  | t =>
    obtain ⟨ks, rfl, h1, _⟩ := ho
    cases kvs with
    | nil => cases h
    | cons z r =>
      cases ks with
      | nil => cases h1
      | cons y s =>
        obtain ⟨d, v⟩ := z
        have h1 := (List.cons.inj h1).1
        have h1 : d = .tuple (y.1.map keyD) := h1
        subst h1
        cases h
        rfl
  | n =>
    obtain ⟨rs, kds, _, _, _, h1, _⟩ := ho
    cases kvs with
    | nil => cases h
    | cons z r =>
      obtain ⟨d, v⟩ := z
      have h1 : d = PyData.none := (List.cons.inj h1).1
      subst h1
      cases h
section
variable {κ : Type} [DecidableEq κ] {K : PySem.W.Frag} {G : Rg} {H : Hp}
theorem get_rel {f : κ → PyData} (hf : ∀ a b, eqK (f a) (f b) = decide (a = b)) (k : κ) : ∀ {ks : List (κ × V)} {kvs : List (PyData × PyData)}, kvs.map (·.1) = ks.map (fun z => f z.1) → DnA K G H (ks.map (·.2)) (kvs.map (·.2)) →
    (valV ks k = none ∧ getD kvs (f k) = none) ∨ ∃ v d, valV ks k = some v ∧ getD kvs (f k) = some d ∧ Dn K G H v d
  | [], [], _, _ => .inl ⟨rfl, rfl⟩
  | [], _ :: _, h, _ => by cases h
  | _ :: _, [], h, _ => by cases h
  | (y, u) :: ks, (x, w) :: kvs, h, hd => by
    have h1 : x = f y := (List.cons.inj h).1
    have h2 := (List.cons.inj h).2
    obtain ⟨d1, d2⟩ : Dn K G H u w ∧ DnA K G H (ks.map (·.2)) (kvs.map (·.2)) := by cases hd; exact ⟨‹_›, ‹_›⟩
    subst h1
    by_cases e : y = k
    · subst e
      exact .inr ⟨u, w, by simp [valV], by simp [getD, hf], d1⟩
    · have e1 : valV ((y, u) :: ks) k = valV ks k := by simp [valV, List.find?_cons, e]
      have e2 : getD ((f y, w) :: kvs) (f k) = getD kvs (f k) := by simp [getD, List.find?_cons, hf, e]
      rw [e1, e2]
      exact get_rel hf k h2 d2
theorem any_rel {f : κ → PyData} (hf : ∀ a b, eqK (f a) (f b) = decide (a = b)) (k : κ) : ∀ {ks : List (κ × V)} {kvs : List (PyData × PyData)}, kvs.map (·.1) = ks.map (fun z => f z.1) → (kvs.any fun z => eqK z.1 (f k)) = ks.any fun z => decide (z.1 = k)
  | [], [], _ => rfl
  | [], _ :: _, h => by cases h
  | _ :: _, [], h => by cases h
  | (y, u) :: ks, (x, w) :: kvs, h => by
    have h1 : x = f y := (List.cons.inj h).1
    subst h1
    simp only [List.any_cons, hf, any_rel hf k (List.cons.inj h).2]
theorem rep_rel {f : κ → PyData} (hf : ∀ a b, eqK (f a) (f b) = decide (a = b)) (k : κ) {v : V} {d : PyData} (hv : Dn K G H v d) : ∀ {ks : List (κ × V)} {kvs : List (PyData × PyData)}, kvs.map (·.1) = ks.map (fun z => f z.1) → DnA K G H (ks.map (·.2)) (kvs.map (·.2)) →
    (kvs.map (fun z => if eqK z.1 (f k) then (z.1, d) else z)).map (·.1) = (ks.map (fun z => if z.1 = k then (z.1, v) else z)).map (fun z => f z.1) ∧ DnA K G H ((ks.map (fun z => if z.1 = k then (z.1, v) else z)).map (·.2)) ((kvs.map (fun z => if eqK z.1 (f k) then (z.1, d) else z)).map (·.2))
  | [], [], _, _ => ⟨rfl, .nil⟩
  | [], _ :: _, h, _ => by cases h
  | _ :: _, [], h, _ => by cases h
  | (y, u) :: ks, (x, w) :: kvs, h, hd => by
    have h1 : x = f y := (List.cons.inj h).1
    obtain ⟨d1, d2⟩ : Dn K G H u w ∧ DnA K G H (ks.map (·.2)) (kvs.map (·.2)) := by cases hd; exact ⟨‹_›, ‹_›⟩
    subst h1
    obtain ⟨i1, i2⟩ := rep_rel hf k hv (List.cons.inj h).2 d2
    by_cases e : y = k
    · subst e
      simp only [List.map_cons, hf, decide_true, if_true]
      exact ⟨by rw [i1], .cons hv i2⟩
    · simp only [List.map_cons, hf, e, decide_false, if_false, Bool.false_eq_true]
      exact ⟨by rw [i1], .cons d1 i2⟩
theorem put_rel {f : κ → PyData} (hf : ∀ a b, eqK (f a) (f b) = decide (a = b)) (k : κ) {v : V} {d : PyData} (hv : Dn K G H v d) {ks : List (κ × V)} {kvs : List (PyData × PyData)} (h : kvs.map (·.1) = ks.map (fun z => f z.1)) (hd : DnA K G H (ks.map (·.2)) (kvs.map (·.2))) :
    (putD kvs (f k) d).map (·.1) = (putK ks k v).map (fun z => f z.1) ∧ DnA K G H ((putK ks k v).map (·.2)) ((putD kvs (f k) d).map (·.2)) := by
  unfold putD putK
  rw [any_rel hf k h]
  by_cases e : (ks.any fun z => decide (z.1 = k)) = true
  · rw [if_pos e, if_pos e]
    exact rep_rel hf k hv h hd
  · rw [if_neg e, if_neg e]
    simp only [List.map_append, h, List.map_cons, List.map_nil, true_and]
    exact hd.append (.cons hv .nil)
end
theorem hfK : ∀ a b : Key, eqK (keyD a) (keyD b) = decide (a = b) := eqK_keyD
theorem hfT : ∀ a b : List Key, eqK (.tuple (a.map keyD)) (.tuple (b.map keyD)) = decide (a = b) := eqKs_keyD
theorem dget_rel {K : PySem.W.Frag} {G : Rg} {H : Hp} {a : Addr} {o : HO} {t : Dk} {vs : List V} {kvs : List (PyData × PyData)} {y : V} {k : PyData} {G' : Rg} (hr : Rd H a o) (ho : DcO t a o (kvs.map (·.1)) vs) (hd : DnA K G H vs (kvs.map (·.2))) (hk : kOk t k = true) (hy : Dn K G' H y k) :
    (DGet H a y none ∧ getD kvs k = none) ∨ ∃ v d, DGet H a y (some v) ∧ getD kvs k = some d ∧ Dn K G H v d := by
  cases t with
  | k =>
    obtain ⟨ks, rfl, h1, rfl⟩ := ho
    cases e : dKey k with
    | none => simp [kOk, e] at hk
    | some kk =>
      have hv := dKey_ok e hy
      have he := dKey_eq e
      subst hv he
      rcases get_rel (f := keyD) hfK kk h1 hd with ⟨g1, g2⟩ | ⟨v, d, g1, g2, g3⟩
      · exact .inl ⟨.inl ⟨ks, kk, hr, rfl, g1.symm⟩, g2⟩
      · exact .inr ⟨v, d, .inl ⟨ks, kk, hr, rfl, g1.symm⟩, g2, g3⟩
  | t =>
    obtain ⟨ks, rfl, h1, rfl⟩ := ho
    cases k <;> try (simp [kOk] at hk; done)
    rename_i xs
    cases e : dKeys xs with
    | none => simp [kOk, e] at hk
    | some kk =>
      obtain ⟨b, ws, rfl, hb, hw⟩ := dn_tupleH hy
      have hv := dKeys_ok e hw
      have he := dKeys_eq e
      subst hv he
      rcases get_rel (f := fun z : List Key => .tuple (z.map keyD)) hfT kk h1 hd with ⟨g1, g2⟩ | ⟨v, d, g1, g2, g3⟩
      · exact .inl ⟨.inr ⟨ks, kk, b, hr, rfl, hb, g1.symm⟩, g2⟩
      · exact .inr ⟨v, d, .inr ⟨ks, kk, b, hr, rfl, hb, g1.symm⟩, g2, g3⟩
  | n => cases hk
theorem dput_rel {K : PySem.W.Frag} {G : Rg} {H : Hp} {a : Addr} {o : HO} {t : Dk} {vs : List V} {kvs : List (PyData × PyData)} {y v : V} {k d : PyData} {G' : Rg} (hr : H a = some o) (ho : DcO t a o (kvs.map (·.1)) vs) (hd : DnA K G H vs (kvs.map (·.2))) (hk : kOk t k = true) (hy : Dn K G' H y k) (hv : Dn K G H v d) (hl : kvs.length < sizeLine) :
    ∃ o' vs', DPut H a y v (upd H a o') ∧ DcO t a o' ((putD kvs k d).map (·.1)) vs' ∧ DnA K G H vs' ((putD kvs k d).map (·.2)) := by
  cases t with
  | k =>
    obtain ⟨ks, rfl, h1, rfl⟩ := ho
    cases e : dKey k with
    | none => simp [kOk, e] at hk
    | some kk =>
      have hv' := dKey_ok e hy
      have he := dKey_eq e
      subst hv' he
      obtain ⟨p1, p2⟩ := put_rel (f := keyD) hfK kk hv h1 hd
      have hlen : ks.length = kvs.length := by have := congrArg List.length h1; simpa using this.symm
      exact ⟨_, _, .inl ⟨ks, kk, hr, rfl, by rw [hlen]; exact hl, rfl⟩, ⟨_, rfl, p1, rfl⟩, p2⟩
  | t =>
    obtain ⟨ks, rfl, h1, rfl⟩ := ho
    cases k <;> try (simp [kOk] at hk; done)
    rename_i xs
    cases e : dKeys xs with
    | none => simp [kOk, e] at hk
    | some kk =>
      obtain ⟨b, ws, rfl, hb, hw⟩ := dn_tupleH hy
      have hv' := dKeys_ok e hw
      have he := dKeys_eq e
      subst hv' he
      obtain ⟨p1, p2⟩ := put_rel (f := fun z : List Key => .tuple (z.map keyD)) hfT kk hv h1 hd
      have hlen : ks.length = kvs.length := by have := congrArg List.length h1; simpa using this.symm
      exact ⟨_, _, .inr ⟨ks, kk, b, hr, rfl, hb, by rw [hlen]; exact hl, rfl⟩, ⟨_, rfl, p1, rfl⟩, p2⟩
  | n => cases hk
end PD
set_option Elab.async false
set_option linter.all false
set_option maxRecDepth 100000
set_option maxHeartbeats 4000000
set_option autoImplicit false
namespace PD
open PySem L2
theorem dn_dict {K : PySem.W.Frag} {G : Rg} {H : Hp} {v : V} {kvs : List (PyData × PyData)} (h : Dn K G H v (.dict kvs)) {t0 : Dk} (hk : kindD kvs = some t0) : ∃ a o t vs, v = .ref a ∧ (∃ ob, G a (.frz ob o)) ∧ DcO t a o (kvs.map (·.1)) vs ∧ DnA K G H vs (kvs.map (·.2)) := by
  cases h with
  | dct h1 h2 h3 => exact ⟨_, _, _, _, rfl, h1, h2, h3⟩
  | exc _ _ _ _ => cases hk
  | exc0 _ => cases hk
  | ins _ _ _ _ => cases hk
  | dcu _ _ _ => cases hk
  | row _ _ _ _ _ _ => cases hk
section
variable {X : Cx} {W : WX} {sc : Scope} {N : List Str} {a b c e e2 o : Expr} {es : List Expr} {apos cpos pos p p2 : Pos} {k : DA} {f g : DF} {s : Stmt}
def dicA (Γ : List Sl) : AV → Option (Bool × Dk × List (PyData × PyData))
  | .d fr (.dict kvs) => (kindD kvs).map fun t => (fr, t, kvs)
  | .s j => match Γ[j]? with
    | some (.own (.dic t kvs)) => some (true, t, kvs)
    | some (.io (.dic t kvs)) => some (true, t, kvs)
    | _ => none
  | _ => none
theorem dicA_ok {Γ : List Sl} {x : AV} {z : Bool × Dk × List (PyData × PyData)} {G : Gh} {H : Hp} {σ : St} {v : V} (h : dicA Γ x = some z) (S : Sta X.K G H σ Γ) (hv : AVok X.K G H σ v x) : ∃ l o vs, v = .ref l ∧ Rd H l o ∧ DcO z.2.1 l o (z.2.2.map (·.1)) vs ∧ DnA X.K (rg G z.1) H vs (z.2.2.map (·.2)) := by
  unfold dicA at h
  split at h
  · rename_i fr kvs
    cases hk : kindD kvs with
    | none => rw [hk] at h; cases h
    | some t =>
      rw [hk] at h
      cases h
      obtain ⟨l, o, t', vs, rfl, h1, h2, h3⟩ := dn_dict hv hk
      have := kindD_ok hk h2
      subst this
      exact ⟨l, o, vs, rfl, .inr (h1.imp fun _ z => S.w.rgl fr _ _ z), h2, h3⟩
  · rename_i j
    obtain ⟨A, T⟩ := S
    have hv : σ[j]? = some (some v) := hv
    split at h
    · cases h
      obtain ⟨u, h1, _, p, o, vs, rfl, _, h3, h4, h5⟩ := T.sl j _ ‹_›
      rw [h1] at hv
      cases hv
      exact ⟨p, o, vs, rfl, .inl h3, h4, h5⟩
    · cases h
      obtain ⟨u, h1, _, p, o, vs, rfl, _, h3, h4, h5⟩ := T.sl j _ ‹_›
      rw [h1] at hv
      cases hv
      exact ⟨p, o, vs, rfl, .inl h3, h4, h5⟩
    · cases h
  · cases h
theorem rdD_av {Γ : List Sl} {x : AV} {d : PyData} {G : Gh} {H : Hp} {σ : St} {v : V} (h : rdD Γ x = some d) (S : Sta X.K G H σ Γ) (hv : AVok X.K G H σ v x) : Dn X.K (RgH H) H v d := (rdD_ok h).ok S hv
def rIxD : R2 := fun x y H Q => ∃ a v, x = .ref a ∧ DGet H a y (some v) ∧ Q v H
theorem ix_dict (hu : X.A.units + 1 < cLine) : IxR X rIxD := by
  intro value slice pins s σ H x y v u Q I rx ry h hs
  obtain ⟨a, w, rfl, g, q⟩ := h
  cases rx
  exact PyProof.Rows.tail_any (dict_typeIs I g) PySem.F.slot_dict_getitem.lookup (d_getItem hu I g ry fun w' s' I' rw' => ⟨w, H, I', rw', q⟩) hs
def ixB (Γ : List Sl) (x y : AV) : R AV := match dicA Γ x with
  | some z => match y with
    | .d _ kk => (R.req (kOk z.2.1 kk)).bind fun _ => (R.ofO (getD z.2.2 kk)).bind fun d => .val (.d z.1 d)
    | _ => .bad
  | none => ixA Γ x y
def dIxB (f g : DF) : DF := fun Γ => (f Γ).bind fun x => (g x.2).bind fun y => (ixB y.2 x.1 y.1).bind fun z => .val (z, y.2)
theorem ce_ixB (C : Cf0 X W sc N) (ha : CE X W a f) (hb : CE X W b g) (hs : PlainIx b := by exact fun _ _ => rfl) : CE X W (.Subscript a b pos) (dIxB f g) := fun Γ =>
  pe_imp (pe_ix ((ix_dict (u1 C)).or ix_seq) (ha Γ) (pe_any fun x : AV × List Sl => hb x.2) hs) fun σ H Q h => bin_rd (X := X) (W := W) (ava := Prod.fst) (Γa := Prod.snd) (avb := fun _ (y : AV × List Sl) => y.1) (Γb := fun _ (y : AV × List Sl) => y.2) (avk := Prod.fst) (Γk := Prod.snd) (k := fun (x : AV × List Sl) (y : AV × List Sl) => (ixB y.2 x.1 y.1).bind fun z => .val (z, y.2)) (fun x y G H σ u v Q S hu hv p => by
    obtain ⟨x, Γ1⟩ := x
    obtain ⟨y, Γ2⟩ := y
    simp only at hu hv S p
    unfold ixB at p
    split at p
    · rename_i z hz
      split at p
      · rename_i fr kk
        have hk : kOk z.2.1 kk = true := by
          cases hc : kOk z.2.1 kk with
          | true => rfl
          | false => rw [hc] at p; exact p.elim
        rw [hk] at p
        have p : Pst X W G H σ (((R.ofO (getD z.2.2 kk)).bind fun d => R.val (AV.d z.1 d)).bind fun z => .val (z, Γ2)) (fun z G' H' => ∀ (w : V), Sta X.K G' H' σ z.snd → AVok X.K G' H' σ w z.fst → Q w H') := p
        obtain ⟨d, hd⟩ : ∃ d, getD z.2.2 kk = some d := by
          cases hc : getD z.2.2 kk with
          | none => rw [hc] at p; exact p.elim
          | some d => exact ⟨d, rfl⟩
        rw [hd] at p
        obtain ⟨l, o, vs, rfl, h1, h2, h3⟩ := dicA_ok hz S hu
        rcases dget_rel h1 h2 h3 hk hv with ⟨_, g2⟩ | ⟨w, d', g1, g2, g3⟩
        · rw [hd] at g2; cases g2
        · rw [hd] at g2; cases g2
          exact .inl ⟨l, w, rfl, g1, p G H (Ext.rf S.w) w S g3⟩
      · exact p.elim
    · rename_i hnone
      clear hnone
      refine .inr ?_
      unfold ixA at p
      split at p
      · rename_i fr ds _ i
        cases hz : atI ds i with
        | none => rw [hz] at p; exact p.elim
        | some d =>
          rw [hz] at p
          obtain ⟨q, xs, rfl, g1, g2⟩ := dn_list hu
          obtain ⟨w, g3, g4⟩ := atI_dn g2 hz
          exact .inl ⟨q, xs, i, w, rfl, dn_int hv, (g1.mono (S.w.rgl fr)).sq, g3, p G H (Ext.rf S.w) w S g4⟩
      · rename_i fr ds _ i
        cases hz : atI ds i with
        | none => rw [hz] at p; exact p.elim
        | some d =>
          rw [hz] at p
          obtain ⟨q, xs, rfl, g1, g2⟩ := dn_tuple hu
          obtain ⟨w, g3, g4⟩ := atI_dn g2 hz
          exact .inr (.inl ⟨q, xs, i, w, rfl, dn_int hv, g1, g3, p G H (Ext.rf S.w) w S g4⟩)
      · rename_i j _ i
        split at p
        · rename_i ds hd
          cases hz : atI ds i with
          | none => rw [hz] at p; exact p.elim
          | some d =>
            rw [hz] at p
            obtain ⟨q, xs, rfl, g1, g2⟩ := S.slotL hd hu
            obtain ⟨w, g3, g4⟩ := atI_dn g2 hz
            exact .inl ⟨q, xs, i, w, rfl, dn_int hv, SqL.of g1, g3, p G H (Ext.rf S.w) w S g4⟩
        · exact p.elim
      · exact p.elim) h
def rInD (neg : Bool) : R2 := fun y x H Q => ∃ a o, x = .ref a ∧ DGet H a y o ∧ Q (.bl (o.isSome != neg)) H
theorem op_inDict (hu : X.A.units + 1 < cLine) : OpR X (compareOp .In) (rInD false) := by
  intro pins s σ H x y v u Q I rx ry h
  obtain ⟨a, o, rfl, g, q⟩ := h
  cases ry
  exact d_in hu I g rx fun s' I' => ⟨.bl o.isSome, H, I', rfl, by rw [Bool.bne_false] at q; exact q⟩
def kInB (Γ : List Sl) (x y : AV) : R Bool := match dicA Γ y with
  | some z => match rdD Γ x with
    | some kk => gq (kOk z.2.1 kk) (getD z.2.2 kk).isSome
    | none => .bad
  | none => kIn Γ x y
def kNinB (Γ : List Sl) (x y : AV) : R Bool := (kInB Γ x y).bind fun z => .val (!z)
theorem kInB_cases {G : Gh} {H : Hp} {σ : St} {Γ : List Sl} {x y : AV} {u v : V} (S : Sta X.K G H σ Γ) (hu : AVok X.K G H σ u x) (hv : AVok X.K G H σ v y) : kInB Γ x y = .bad ∨ ∃ z, kInB Γ x y = .val z ∧
    ((∃ l o, v = .ref l ∧ DGet H l u o ∧ z = o.isSome) ∨ (∃ d ds, Dp X.K H u d ∧ Dp X.K H v (.list ds) ∧ SeqAt.shaped d = true ∧ SeqAt.shaped (.list ds) = true ∧ z = ds.any fun z => PyData.eqv z d) ∨
     (∃ p xs, v = .ref p ∧ SqT X.K H p xs ∧ flatV u = true ∧ xs.all flatV = true ∧ z = inV u xs)) := by
  unfold kInB
  cases hz : dicA Γ y with
  | none =>
    rcases kIn_cases S hu hv with e | ⟨z, e, r⟩
    · exact .inl e
    · exact .inr ⟨z, e, .inr r⟩
  | some z =>
    cases hd : rdD Γ x with
    | none => exact .inl rfl
    | some kk =>
      cases hk : kOk z.2.1 kk with
      | false => left; simp only [hk]; rfl
      | true =>
        obtain ⟨l, o, vs, rfl, h1, h2, h3⟩ := dicA_ok hz S hv
        refine .inr ⟨(getD z.2.2 kk).isSome, by simp only [hk]; rfl, .inl ⟨l, ?_⟩⟩
        rcases dget_rel h1 h2 h3 hk (rdD_av hd S hu) with ⟨g1, g2⟩ | ⟨w, d', g1, g2, g3⟩
        · exact ⟨none, rfl, g1, by rw [g2]; rfl⟩
        · exact ⟨some w, rfl, g1, by rw [g2]; rfl⟩
theorem ce_inB (C : Cf0 X W sc N) (ha : CE X W a f) (hb : CE X W b g) (hm : behindInMarks .In b = false := by rfl) : CE X W (.Compare a [.In] [b] pos) (dCmp kInB f g) :=
  ce_cmp2 (fun x y Γ2 => boolR (kInB Γ2 x y) Γ2) (opR_or (op_inDict (u1 C)) (opR_or (op_inD (u65 C)) op_in_seq)) hm ha hb fun x y Γ2 G H σ u v Q S hu hv p => by
    rcases kInB_cases S hu hv with e | ⟨z, e, ⟨l, o, rfl, h1, rfl⟩ | ⟨d, ds, h1, h2, h3, h4, rfl⟩ | ⟨q, xs, rfl, h1, h2, h3, rfl⟩⟩
    · rw [e] at p; exact p.elim
    · rw [e] at p; exact .inl ⟨l, o, rfl, h1, by rw [Bool.bne_false]; exact Pk.v p S (.bl _)⟩
    · rw [e] at p; exact .inr (.inl ⟨d, ds, h1, h2, h3, h4, Pk.v p S (.bl _)⟩)
    · rw [e] at p; exact .inr (.inr ⟨q, xs, rfl, .inr h1, h2, h3, Pk.v p S (.bl _)⟩)
def cellC (Γ : List Sl) (i : Nat) : Option (Bool × Cl) := match Γ[i]? with
  | some (.own c) => some (false, c)
  | some (.io c) => some (true, c)
  | _ => none
theorem cellC_ok {Γ : List Sl} {i : Nat} {z : Bool × Cl} (h : cellC Γ i = some z) : Γ[i]? = some (mkS z.1 z.2) := by
  unfold cellC at h
  split at h
  · cases h; exact ‹_›
  · cases h; exact ‹_›
  · cases h
def putC : Cl → PyData → PyData → Option Cl
  | .lst ds, .int k, v => (ixN ds.length k).map fun j => .lst (ds.set j v)
  | .dic t kvs, k, v => if kOk t k && decide (kvs.length < sizeLine) then some (.dic t (putD kvs k v)) else none
  | _, _, _ => none
theorem putC_cases {c c' : Cl} {k v : PyData} (h : putC c k v = some c') : (∃ ds k' j, c = .lst ds ∧ k = .int k' ∧ ixN ds.length k' = some j ∧ c' = .lst (ds.set j v)) ∨ ∃ t kvs, c = .dic t kvs ∧ kOk t k = true ∧ kvs.length < sizeLine ∧ c' = .dic t (putD kvs k v) := by
  unfold putC at h
  split at h
  · rename_i ds k'
    cases hj : ixN ds.length k' with
    | none => rw [hj] at h; cases h
    | some j => rw [hj] at h; cases h; exact .inl ⟨ds, k', j, rfl, rfl, hj, rfl⟩
  · rename_i t kvs
    split at h
    · rename_i hc
      cases h
      rw [Bool.and_eq_true] at hc
      exact .inr ⟨t, kvs, rfl, hc.1, of_decide_eq_true hc.2, rfl⟩
    · cases h
  · cases h
def bPut (i : Nat) (fe fi : DF) : DS := fun Γ => (dFrz fe Γ).bind fun z => (R.ofO (cellC z.2 i)).bind fun _ => (fi z.2).bind fun y => (R.ofO (cellC y.2 i)).bind fun c => match z.1, y.1 with
  | .d true v, .d _ kk => (R.ofO (putC c.2 kk v)).bind fun c' => .val (.nx, y.2.set i (mkS c.1 c'))
  | _, _ => .bad
theorem tup_mut {H : Hp} {p : Addr} {o o' : HO} (h : H p = some o) (ht : ∀ xs, o ≠ .tup xs) : TupLe H (upd H p o') := fun a xs e => by
  have : a ≠ p := fun q => by rw [q, h] at e; exact ht xs (Option.some.inj e)
  rw [upd_ne this]; exact e
theorem c1_put (C : Cf0 X W sc N) (i : Nat) {x : Str} {p' tpos : Pos} {fe fi : DF} (hN : N[i]? = some x) (hv : visB sc x = true) (he : CE X W e fe) (hi : CE X W b fi) (hd : (x == ("__debug__" : Str)) = false := by decide +kernel) (hcd : (x == ("__classdict__" : Str)) = false := by decide +kernel)
    (has : ∀ v, assign (.Subscript (.Name x p') b tpos) X.env v = (do
      let ov ← holding [v] (eval (.Name x p') X.env)
      let iv ← holding [v, ov] (eval b X.env)
      standAt tpos
      holding [v, ov, iv] (setItem ov iv v)
      release [v, ov, iv] []) := by intro _; rfl)
    (hs : swapsWithSole [.Subscript (.Name x p') b tpos] e pos.line X.env = pure false := by rfl) (hw : swappedStores [.Subscript (.Name x p') b tpos] e X.env = pure none := by rfl) (h1 : (assignEach [.Subscript (.Name x p') b tpos] X.env).map (·.2) = [assign (.Subscript (.Name x p') b tpos) X.env] := by rfl) :
    C1 X W (.Assign [.Subscript (.Name x p') b tpos] e pos) (bPut i fe fi) := fun Γ =>
  ps_imp (ps_asg (ce_frz he Γ) (pg_sub (pe_any fun z : {z : AV × List Sl // (cellC z.2 i).isSome} => evp_cell (W := W) (c := ((cellC z.1.2 i).get z.2).2) C (cellC_ok (Option.some_get _).symm) hN hv hd hcd) (pe_any fun z : AV × List Sl => hi z.2) (set_or set_list (set_dict (u1 C))) has) hs hw h1) fun D σ H ⟨G, S, p⟩ => ⟨G, S, (Pst.bind p).imp fun z G1 H1 e1 p1 v S1 a1 => by
    obtain ⟨c0, hc0, p1⟩ := Pst.ofO p1
    refine ⟨⟨z, by rw [hc0]; rfl⟩, G1, S1, fun G2 H2 e2 u S2 hu => ⟨z, G2, S2, (Pst.bind (Pst.ext p1 e2)).imp fun y G3 H3 e3 p3 w S3 hw3 => ?_⟩⟩
    obtain ⟨c, hc, p3⟩ := Pst.ofO p3
    have hu : σ[i]? = some (some u) := hu
    obtain ⟨u', fp, g1, g2, g3⟩ := S3.chg1 i c.1 (cellC_ok hc)
    rw [hu] at g1
    cases g1
    have a1 := a1.ext (e2.tr e3)
    split at p3
    · rename_i vd fr kk hz hy
      rw [hz] at a1
      rw [hy] at hw3
      obtain ⟨c', hc', p3⟩ := Pst.ofO p3
      have a1 : Dn X.K (rg G3 true) H3 v vd := a1
      have hw3 : Dn X.K (rg G3 fr) H3 w kk := hw3
      have fin : ∀ H4, Sta X.K G3 H4 σ (y.2.set i (mkS c.1 c')) ∧ Ext G3 H3 G3 H4 → D.nx σ H4 := fun H4 ⟨S4, e4⟩ => p3 G3 H4 e4 σ S4
      obtain ⟨io, cc⟩ := c
      have g2 : cc.ok X.K (rg G3 true) H3 u fp := g2
      rcases putC_cases hc' with ⟨ds, k', j, e1, rfl, hj, rfl⟩ | ⟨t, kvs, e1, hk, hl, rfl⟩
      · have e1 : cc = .lst ds := e1
        subst e1
        obtain ⟨q, vs, rfl, hfp, hq, hd'⟩ := g2
        refine .inl ⟨q, vs, k', j, rfl, dn_int hw3, hq, by rw [hd'.length]; exact hj, fin _ (g3 q _ _ _ hfp hq (fun _ h => by cases h) (fun _ _ h => by cases h) ⟨q, _, rfl, rfl, upd_same, ?_⟩)⟩
        exact (DnA.set a1 j hd').mono (fun _ _ z => z) (tup_mut hq (fun _ h => by cases h))
      · have e1 : cc = .dic t kvs := e1
        subst e1
        obtain ⟨q, o, vs, rfl, hfp, hq, ho, hd'⟩ := g2
        obtain ⟨o', vs', k1, k2, k3⟩ := dput_rel hq ho hd' hk hw3 a1 hl
        have nt : (∀ xs, o ≠ .tup xs) ∧ ∀ x y, o ≠ .frz x y := by
          cases t with
          | k => obtain ⟨_, rfl, _⟩ := ho; exact ⟨fun _ h => (by cases h), fun _ _ h => (by cases h)⟩
          | t => obtain ⟨_, rfl, _⟩ := ho; exact ⟨fun _ h => (by cases h), fun _ _ h => (by cases h)⟩
          | n => cases hk
        exact .inr ⟨q, _, rfl, k1, fin _ (g3 q _ _ _ hfp hq nt.1 nt.2 ⟨q, o', vs', rfl, rfl, upd_same, k2, k3.mono (fun _ _ z => z) (tup_mut hq nt.1)⟩)⟩
    · exact p3.elim⟩
end
end PD
set_option Elab.async false
set_option linter.all false
set_option maxRecDepth 100000
set_option maxHeartbeats 4000000
set_option autoImplicit false
namespace PD
open PySem L2
section
variable {X : Cx} {W : WX} {sc : Scope} {N : List Str} {a b c e e2 e3 o tg : Expr} {es : List Expr} {apos cpos pos p p1 p2 p3 : Pos} {k : DA} {f g h : DF} {s : Stmt}
def intS : Option Sl → Option Int
  | some (.dat _ (.int i)) => some i
  | _ => none
def bInc (i : Nat) (fe : DF) : DS := fun Γ => (R.ofO (intS Γ[i]?)).bind fun n => (fe Γ).bind fun z => (R.ofO (intA z.1)).bind fun m => .val (.nx, z.2.set i (.dat true (.int (n + m))))
end
end PD
set_option Elab.async false
set_option linter.all false
set_option maxRecDepth 100000
set_option maxHeartbeats 4000000
set_option autoImplicit false
namespace PD
open PySem L2
theorem Sta.feed {K : PySem.W.Frag} {G : Gh} {H : Hp} {σ : St} {Γ : List Sl} {f : Fd} (S : Sta K G H σ Γ) (i : Nat) (io : Bool) (hi : Γ[i]? = some (mkS io (.feed f))) :
    ∃ d l, σ[i]? = some (some (.ref d)) ∧ d ≠ l ∧ H d = some (.dK (fdK l f.2.1 f.2.2)) ∧ H l = some (.lst (f.1.map V.int)) ∧
      (∀ t s, Sta K G (upd H d (.dK (fdK l t s))) σ (Γ.set i (mkS io (.feed (f.1, t, s)))) ∧ Ext G H G (upd H d (.dK (fdK l t s)))) ∧
      (∀ ns : List Int, Sta K G (upd H l (.lst (ns.map V.int))) σ (Γ.set i (mkS io (.feed (ns, f.2)))) ∧ Ext G H G (upd H l (.lst (ns.map V.int)))) ∧
      (∀ l' (ns : List Int), H l' = none → Sta K G (upd (upd H l' (.lst (ns.map V.int))) d (.dK (fdK l' f.2.1 f.2.2))) σ (Γ.set i (mkS io (.feed (ns, f.2)))) ∧ Ext G H G (upd (upd H l' (.lst (ns.map V.int))) d (.dK (fdK l' f.2.1 f.2.2)))) := by
  obtain ⟨A, T⟩ := S
  have hlt : i < Γ.length := (List.getElem?_eq_some_iff.mp hi).1
  have key : ∃ d l, σ[i]? = some (some (.ref d)) ∧ A i = [d, l] ∧ d ≠ l ∧ H d = some (.dK (fdK l f.2.1 f.2.2)) ∧ H l = some (.lst (f.1.map V.int)) ∧
      ∀ (G' : Gh) (H' : Hp) (f' : Fd) (fp' : List Addr), G'.I = G.I → G'.H0 = G.H0 → (Cl.feed f').ok K (RgN G') H' (.ref d) fp' → (∀ p ∈ fp', p ∈ A i ∨ G.H0 p = none) → SlOk K G' H' i σ[i]? fp' (mkS io (.feed f')) := by
    have hs := T.sl i _ hi
    cases io with
    | true =>
      obtain ⟨v, h1, h2, d, l, rfl, h3, h4, h5, h6⟩ := hs
      exact ⟨d, l, h1, h3, h4, h5, h6, fun G' H' f' fp' gi _ ok _ => ⟨_, h1, by rw [gi]; exact h2, ok⟩⟩
    | false =>
      obtain ⟨v, h1, h2, d, l, rfl, h3, h4, h5, h6⟩ := hs
      refine ⟨d, l, h1, h3, h4, h5, h6, fun G' H' f' fp' _ g0 ok hp => ⟨_, h1, fun p hp' => ?_, ok⟩⟩
      rw [g0]
      rcases hp p hp' with q | q
      · exact h2 p q
      · exact q
  obtain ⟨d, l, h1, hA, hne, hd, hl, mk⟩ := key
  have ad := T.al i d (by rw [hA]; simp)
  have al := T.al i l (by rw [hA]; simp)
  refine ⟨d, l, h1, hne, hd, hl, fun t s => ?_, fun ns => ?_, fun l' ns hl' => ?_⟩
  · refine T.step (i := i) (fp' := [d, l]) (grow_mut T.w hd ad.2.1 (fun _ => by simp) (fun _ _ => by simp)) (fun p hp => by rw [hA]; simp at hp; simp [hp]) (fun _ _ => rfl) rfl (fun _ => mk _ _ _ _ rfl rfl ⟨d, l, rfl, rfl, hne, upd_same, by rw [upd_ne (Ne.symm hne)]; exact hl⟩ fun p hp => .inl (by rw [hA]; exact hp)) (fun p hp => ?_)
    simp only [List.mem_cons, List.not_mem_nil, or_false] at hp
    rcases hp with rfl | rfl
    · exact ⟨by rw [upd_same]; simp, ad.2.1, .inl (by rw [hA]; simp)⟩
    · exact ⟨by rw [upd_ne (Ne.symm hne), hl]; simp, al.2.1, .inl (by rw [hA]; simp)⟩
  · refine T.step (i := i) (fp' := [d, l]) (grow_mut T.w hl al.2.1 (fun _ => by simp) (fun _ _ => by simp)) (fun p hp => by rw [hA]; simp at hp; simp [hp]) (fun _ _ => rfl) rfl (fun _ => mk _ _ _ _ rfl rfl ⟨d, l, rfl, rfl, hne, by rw [upd_ne hne]; exact hd, upd_same⟩ fun p hp => .inl (by rw [hA]; exact hp)) (fun p hp => ?_)
    simp only [List.mem_cons, List.not_mem_nil, or_false] at hp
    rcases hp with rfl | rfl
    · exact ⟨by rw [upd_ne hne, hd]; simp, ad.2.1, .inl (by rw [hA]; simp)⟩
    · exact ⟨by rw [upd_same]; simp, al.2.1, .inl (by rw [hA]; simp)⟩
  · obtain ⟨fN, f0, _⟩ := T.w.fresh hl'
    have hdl : d ≠ l' := fun e => by rw [e, hl'] at hd; cases hd
    have g : Grow G H G.N (upd (upd H l' (.lst (ns.map V.int))) d (.dK (fdK l' f.2.1 f.2.2))) [d] := by
      refine ⟨fun a x e hp => ?_, fun a ha => ?_, fun a xs e => ?_, fun _ _ e => e, fun a x e => ⟨?_, .inl e⟩⟩
      · have h2 : a ≠ d := by simpa using hp
        have h3 : a ≠ l' := fun q => by rw [q, hl'] at e; cases e
        rw [upd_ne h2, upd_ne h3]; exact e
      · have : a = d := by simpa using ha
        rw [this, upd_same]; simp
      · have h3 : a ≠ l' := fun q => by rw [q, hl'] at e; cases e
        have h2 : a ≠ d := fun q => by rw [q, hd] at e; cases e
        rw [upd_ne h2, upd_ne h3]; exact e
      · have h2 : a ≠ d := fun q => by rw [q, ad.2.1] at e; cases e
        have h3 : a ≠ l' := fun q => by rw [q, fN] at e; cases e
        rw [upd_ne h2, upd_ne h3]; exact (T.w.new a x e).1
    refine T.step (i := i) (fp' := [d, l']) g (fun p hp => by rw [hA]; simp at hp; simp [hp]) (fun _ _ => rfl) rfl (fun _ => mk _ _ _ _ rfl rfl ⟨d, l', rfl, rfl, hdl, upd_same, by rw [upd_ne (Ne.symm hdl), upd_same]⟩ fun p hp => ?_) (fun p hp => ?_)
    · simp only [List.mem_cons, List.not_mem_nil, or_false] at hp
      rcases hp with rfl | rfl
      · exact .inl (by rw [hA]; simp)
      · exact .inr f0
    · simp only [List.mem_cons, List.not_mem_nil, or_false] at hp
      rcases hp with rfl | rfl
      · exact ⟨by rw [upd_same]; simp, ad.2.1, .inl (by rw [hA]; simp)⟩
      · exact ⟨by rw [upd_ne (Ne.symm hdl), upd_same]; simp, fN, .inr hl'⟩
structure EqT {α : Type} [DecidableEq α] (enc : α → PyData) (k : Nat) : Prop where
  lay : ∀ x, (enc x).canLay0 = true
  dep : ∀ x, (enc x).depth ≤ k
  eq : ∀ x y, PyData.eqv (enc x) (enc y) = decide (x = y)
theorem eqt_int : EqT PyData.int 0 := ⟨fun _ => rfl, fun _ => Nat.le_refl _, fun x y => by show (x == y) = _; rfl⟩
theorem eqt_bool : EqT PyData.bool 0 := ⟨fun _ => rfl, fun _ => Nat.le_refl _, fun x y => by cases x <;> cases y <;> rfl⟩
section
variable {α β γ : Type} [DecidableEq α] [DecidableEq β] [DecidableEq γ] {e1 : α → PyData} {e2 : β → PyData} {e3 : γ → PyData} {k k2 k3 : Nat}
theorem EqT.layA (h : EqT e1 k) : ∀ xs : List α, PyData.canLayAll0 (xs.map e1) = true
  | [] => rfl
  | x :: xs => by simp [PyData.canLayAll0, h.lay x, EqT.layA h xs]
theorem EqT.depA (h : EqT e1 k) : ∀ xs : List α, PyData.depthAll (xs.map e1) ≤ k
  | [] => Nat.zero_le _
  | x :: xs => by
    have a := h.dep x
    have b := EqT.depA h xs
    simp only [List.map_cons, PyData.depthAll]
    omega
theorem EqT.eqA (h : EqT e1 k) : ∀ xs ys : List α, PyData.eqvAll (xs.map e1) (ys.map e1) = decide (xs = ys)
  | [], [] => rfl
  | [], y :: ys => by simp [PyData.eqvAll]
  | x :: xs, [] => by simp [PyData.eqvAll]
  | x :: xs, y :: ys => by simp [PyData.eqvAll, h.eq x y, EqT.eqA h xs ys]
theorem eqt_list (h : EqT e1 k) : EqT (fun xs : List α => PyData.list (xs.map e1)) (k + 1) :=
  ⟨fun xs => by simpa [PyData.canLay0] using h.layA xs, fun xs => by simpa [PyData.depth] using h.depA xs, fun xs ys => by simpa [PyData.eqv] using h.eqA xs ys⟩
theorem eqt_tup (h : EqT e1 k) : EqT (fun xs : List α => PyData.tuple (xs.map e1)) (k + 1) :=
  ⟨fun xs => by simpa [PyData.canLay0] using h.layA xs, fun xs => by simpa [PyData.depth] using h.depA xs, fun xs ys => by simpa [PyData.eqv] using h.eqA xs ys⟩
theorem EqT.sh (h : EqT e1 k) (hk : k ≤ 64) (x : α) : SeqAt.shaped (e1 x) = true := by
  unfold SeqAt.shaped
  rw [h.lay x, Bool.true_and]
  exact decide_eq_true (Nat.le_trans (h.dep x) hk)
end
section
variable {X : Cx} {W : WX} {sc : Scope} {N : List Str} {e : Expr} {pos p p2 p3 : Pos} {x : Str} {fe : DF}
theorem pe_nm (C : Cf0 X W sc N) {i : Nat} {x : Str} {pos : Pos} (hN : N[i]? = some x) (hv : visB sc x = true) (hd : (x == ("__debug__" : Str)) = false := by decide +kernel) (hcd : (x == ("__classdict__" : Str)) = false := by decide +kernel) : PE X (.Name x pos) (tVar i) :=
  pe_var (i := i) (by rw [C.hN]; exact hN) (by rw [C.hsc]; exact vis_of hv) hd hcd
end
end PD
set_option Elab.async false
set_option linter.all false
set_option maxRecDepth 100000
set_option maxHeartbeats 4000000
set_option autoImplicit false
namespace PD
open PySem L2
section
variable {X : Cx} {W : WX} {sc : Scope} {N : List Str} {pos : Pos} {x : Str}
end
end PD
set_option Elab.async false
set_option linter.all false
set_option maxRecDepth 100000
set_option maxHeartbeats 4000000
set_option autoImplicit false
namespace PD
open PySem L2
def Gv (P : Program) (w : World) (K : PySem.W.Frag) (mg : Str → Option Value) (base : Heap) (k : Nat) (x : Str) (dvs : List V) (sp : Sp) : Prop :=
  ∃ (f : Addr) (fd : FuncData) (ps : List Str) (ds : List Value), FnOk P w K mg base (L2N.CX P w) k f fd ps sp ∧ mg x = some (.ref f) ∧ PySem.W.keepIn K (.ref f) = true ∧ Binds K fd ps ds ∧ Vals dvs ds
theorem Gv.clee {P : Program} {w : World} {K : PySem.W.Frag} {mg : Str → Option Value} {base : Heap} {k k' : Nat} {x : Str} {dvs : List V} {sp : Sp} {X : Cx} {W : WX} {scope : Scope} {N : List Str} (g : Gv P w K mg base k x dvs sp) (h : Here X W P w K mg base scope N k') (hk : k ≤ k') : Clee X x dvs sp := by
  obtain ⟨f, fd, ps, ds, h1, h2, h3, h4, h5⟩ := g
  refine ⟨k, f, fd, ps, ds, ?_, h.room.mono hk, ?_, ?_, ?_, h5⟩
  · rw [h.prog, h.w, h.K, h.mg, h.base]; exact h1
  · rw [h.mg]; exact h2
  · rw [h.K]; exact h3
  · rw [h.K]; exact h4
theorem Gv.of {P : Program} {w : World} {K : PySem.W.Frag} {mg : Str → Option Value} {base : Heap} {k : Nat} {x x' qual : Str} {params : Arguments} {body : List Stmt} {scope : Scope} {dvs : List V} {kws : List (Str × V)} {f : Addr} {fd : FuncData} {ps : List Str} {dv : List V} {ds : List Value} {sp : Sp}
    (F : FunD K x qual params body scope dvs kws f fd) (hm : mg x' = some (.ref f)) (ok : FnOk P w K mg base (L2N.CX P w) k f fd ps sp) (b : Binds K fd ps ds) (hv : Vals dv ds) : Gv P w K mg base k x' dv sp := ⟨f, fd, ps, ds, ok, hm, F.kp, b, hv⟩
section
variable {X : Cx} {W : WX} {sc : Scope} {N : List Str} {a b c e : Expr} {es : List Expr} {pos p : Pos} {Γ : List Sl}
def GvK (P : Program) (w : World) (K : PySem.W.Frag) (mg : Str → Option Value) (base : Heap) (k : Nat) (x : Str) (n : Nat) (ks : List Str) (dvs : List V) (sp : Sp) : Prop :=
  ∃ (f : Addr) (fd : FuncData) (ps : List Str) (its : List Value), FnOk P w K mg base (L2N.CX P w) k f fd ps sp ∧ mg x = some (.ref f) ∧ PySem.W.keepIn K (.ref f) = true ∧ KBn K fd ps n ks (fun us ws => us ++ ws ++ its) (fun vs zs => vs ++ zs ++ dvs)
def CleeK (X : Cx) (x : Str) (n : Nat) (ks : List Str) (dvs : List V) (sp : Sp) : Prop :=
  ∃ (k : Nat) (f : Addr) (fd : FuncData) (ps : List Str) (its : List Value), FnOk X.prog X.w X.K X.mg X.base (L2N.CX X.prog X.w) k f fd ps sp ∧ Room k X.A ∧ X.mg x = some (.ref f) ∧ PySem.W.keepIn X.K (.ref f) = true ∧ KBn X.K fd ps n ks (fun us ws => us ++ ws ++ its) (fun vs zs => vs ++ zs ++ dvs)
theorem GvK.clee {P : Program} {w : World} {K : PySem.W.Frag} {mg : Str → Option Value} {base : Heap} {k k' : Nat} {x : Str} {n : Nat} {ks : List Str} {dvs : List V} {sp : Sp} {scope : Scope} (g : GvK P w K mg base k x n ks dvs sp) (h : Here X W P w K mg base scope N k') (hk : k ≤ k') : CleeK X x n ks dvs sp := by
  obtain ⟨f, fd, ps, its, g1, g2, g3, g4⟩ := g
  refine ⟨k, f, fd, ps, its, ?_, h.room.mono hk, ?_, ?_, ?_⟩
  · rw [h.prog, h.w, h.K, h.mg, h.base]; exact g1
  · rw [h.mg]; exact g2
  · rw [h.K]; exact g3
  · rw [h.K]; exact g4
theorem CleeK.blk {x : Str} {n : Nat} {ks : List Str} {dvs : List V} {sp : Sp} (h : CleeK X x n ks dvs sp) {s : Shared} {H : Hp} {scope : Scope} {ce : Env} {fp : List Addr} : CleeK (X.blk s H scope ce fp) x n ks dvs sp := h
theorem Gv.u {P : Program} {w : World} {K : PySem.W.Frag} {mg : Str → Option Value} {base : Heap} {k k' : Nat} {x : Str} {dvs : List V} {m : List Ar → R (Rs × List Sl)} {scope : Scope} (g : Gv P w K mg base k x dvs (spU K mg m)) (h : Here X W P w K mg base scope N k') (hk : k ≤ k') : Clee X x dvs (spU X.K X.mg m) := by
  have := g.clee h hk
  rw [h.K, h.mg]
  exact this
theorem GvK.u {P : Program} {w : World} {K : PySem.W.Frag} {mg : Str → Option Value} {base : Heap} {k k' : Nat} {x : Str} {n : Nat} {ks : List Str} {dvs : List V} {m : List Ar → R (Rs × List Sl)} {scope : Scope} (g : GvK P w K mg base k x n ks dvs (spU K mg m)) (h : Here X W P w K mg base scope N k') (hk : k ≤ k') : CleeK X x n ks dvs (spU X.K X.mg m) := by
  have := g.clee h hk
  rw [h.K, h.mg]
  exact this
section
variable {x : Str} {dvs : List V} {dds : List PyData} {m : List Ar → R (Rs × List Sl)} {kws : List Keyword} {ks : List Str} {n : Nat} {k kk : DA}
theorem AVs.append {K : PySem.W.Frag} {G : Gh} {H : Hp} {σ : St} : ∀ {vs us : List V} {as bs : List AV}, AVs K G H σ vs as → AVs K G H σ us bs → AVs K G H σ (vs ++ us) (as ++ bs)
  | _, _, _, _, .nil, h => h
  | _, _, _, _, .cons q r, h => .cons q (AVs.append r h)
end
end
end PD
set_option Elab.async false
set_option linter.all false
set_option maxRecDepth 100000
set_option maxHeartbeats 4000000
set_option autoImplicit false
namespace PD
open PySem L2
abbrev DX := List Sl → R (Rs × List Sl)
def FinX (K : PySem.W.Frag) (G : Gh) (H : Hp) (σ : St) (Γ : List Sl) (Q : VK) : Rs → Prop
  | .d x => ∀ v, Sta K G H σ Γ → Dn K (rg G true) H v x → Q v H
  | .c c => ∀ v H2, Sta K G H σ Γ → NewC K (rg G true) H c v H2 → Q v H2
def rdX (X : Cx) (W : WX) (Γ : List Sl) (m : R (Rs × List Sl)) : TE := fun σ H Q => ∃ G, Sta X.K G H σ Γ ∧ Pst X W G H σ m fun r G' H' => FinX X.K G' H' σ r.2 Q r.1
def CX (X : Cx) (W : WX) (e : Expr) (f : DX) : Prop := ∀ Γ, PE X e (rdX X W Γ (f Γ))
section
variable {X : Cx} {W : WX} {sc : Scope} {N : List Str} {e : Expr} {es : List Expr} {pos p : Pos} {x : Str} {dvs : List V} {dds : List PyData} {m : List Ar → R (Rs × List Sl)} {kws : List Keyword} {ks : List Str} {n : Nat} {k kk : DA} {f : DX}
def xC (n : DC) : DX := fun Γ => (n Γ).bind fun z => .val (.c z.1, z.2)
theorem cx_c {n : DC} (h : CC X W e n) : CX X W e (xC n) := fun Γ => pe_imp (h Γ) fun σ H Q ⟨G, S, q⟩ => ⟨G, S, (Pst.bind q).imp fun z G1 H1 e1 p1 v H2 S1 nc => p1 G1 H1 (Ext.rf S1.w) v H2 S1 nc⟩
def xE (f : DF) : DX := fun Γ => (f Γ).bind fun z => (frzA z).bind fun y => match y.1 with
  | .d true d => .val (.d d, y.2)
  | _ => .bad
theorem cx_e {f : DF} (h : CE X W e f) : CX X W e (xE f) := fun Γ => pe_imp (h Γ) fun σ H Q ⟨G, S, q⟩ => ⟨G, S, (Pst.bind q).imp fun z G1 H1 e1 p1 v S1 hv => by
  obtain ⟨y, G2, S2, e2, h2, p2⟩ := frzP S1 hv p1
  obtain ⟨a, Γ2⟩ := y
  cases a with
  | s j => exact p2.elim
  | d fr d =>
    cases fr with
    | false => exact p2.elim
    | true => exact p2 G2 H1 (Ext.rf S2.w) v S2 h2⟩
def xCall (m : List Ar → R (Rs × List Sl)) (dds : List PyData) (k : DA) : DX := fun Γ => (k Γ).bind fun z => (R.ofO (rdDs z.2 none z.1)).bind fun ds => ((m ((ds ++ dds).map Ar.d)).atX z.2).bind fun r => .val (r.1, z.2)
theorem cx_call (C : Cf0 X W sc N) (hc : Clee X x dvs (spU X.K X.mg m)) (hg : glB sc x = true) (hdv : ∀ G H, DnA X.K G H dvs dds) (ha : CA X W (e :: es) k)
    (hdb : (x == ("__debug__" : Str)) = false := by decide +kernel) (he : starEach (e :: es) X.env = (false, eval e X.env) :: starEach es X.env := by rfl) (hpl : (backTo pos (starEach es X.env)).any (·.1) = false := by rfl) : CX X W (.Call (.Name x p) (e :: es) [] pos) (xCall m dds k) := fun Γ => by
  obtain ⟨k', f, fd, ps, dss, F, hr, hm, hk, hb, hd⟩ := hc
  refine pe_imp (pe_callSD (E := fun σ cls d H => W cls d σ H) F hr (C.gl hg) hm hk hb hd (fun σ => L2N.passAt C.tk σ) (ha Γ) hdb he hpl) fun σ H Q ⟨G, S, q⟩ => ⟨G, S, (Pst.bind q).imp fun z G1 H1 e1 p1 vs S1 av => ?_⟩
  obtain ⟨ds, hds, p1⟩ := Pst.ofO p1
  refine callD_core hdv S1 av hds ((Pst.bind p1).imp fun r G2 H2 e2 p2 S2 => ?_)
  cases hz : r.1 with
  | d w =>
    have p2 := p2 G2 H2 (Ext.rf S2.w)
    rw [hz] at p2
    exact fun v hv => p2 v S2 hv
  | c w =>
    have p2 := p2 G2 H2 (Ext.rf S2.w)
    rw [hz] at p2
    exact fun v H3 hn => p2 v H3 S2 hn
def xCallC (m : List Ar → R (Rs × List Sl)) (n : Nat) (dds : List PyData) (k : DA) : DX := fun Γ => (k Γ).bind fun z => (preC n dds z).bind fun y => ((m y.2.2).atC n z.2 y.1 y.2.1).bind fun r => .val (r.1, r.2)
theorem cx_callC (C : Cf0 X W sc N) (n : Nat) (hc : Clee X x dvs (spU X.K X.mg m)) (hg : glB sc x = true) (hdv : ∀ G H, DnA X.K G H dvs dds) (ha : CA X W (e :: es) k)
    (hdb : (x == ("__debug__" : Str)) = false := by decide +kernel) (he : starEach (e :: es) X.env = (false, eval e X.env) :: starEach es X.env := by rfl) (hpl : (backTo pos (starEach es X.env)).any (·.1) = false := by rfl) : CX X W (.Call (.Name x p) (e :: es) [] pos) (xCallC m n dds k) := fun Γ => by
  obtain ⟨k', f, fd, ps, dss, F, hr, hm, hk, hb, hd⟩ := hc
  refine pe_imp (pe_callSD (E := fun σ cls d H => W cls d σ H) F hr (C.gl hg) hm hk hb hd (fun σ => L2N.passAt C.tk σ) (ha Γ) hdb he hpl) fun σ H Q ⟨G, S, q⟩ => ⟨G, S, (Pst.bind q).imp fun z G1 H1 e1 p1 vs S1 av => ?_⟩
  obtain ⟨i, ic, ds, h1, h2, h3, h4, p1⟩ := preC_ok p1
  refine callC_core hdv S1 av h1 h2 h3 h4 ((Pst.bind p1).imp fun r G2 H2 e2 p2 S2 => ?_)
  cases hz : r.1 with
  | d w =>
    have p2 := p2 G2 H2 (Ext.rf S2.w)
    rw [hz] at p2
    exact fun v hv => p2 v S2 hv
  | c w =>
    have p2 := p2 G2 H2 (Ext.rf S2.w)
    rw [hz] at p2
    exact fun v H3 hn => p2 v H3 S2 hn
def rsF : Rs → Option PyData
  | .d x => some x
  | .c c => frzC c
def eX (f : DX) : DF := fun Γ => (f Γ).bind fun z => (R.ofO (rsF z.1)).bind fun d => .val (.d true d, z.2)
theorem ce_x (h : CX X W e f) : CE X W e (eX f) := fun Γ => pe_imp (h Γ) fun σ H Q ⟨G, S, q⟩ => ⟨G, S, (Pst.bind q).imp fun z G1 H1 e1 p1 => by
  obtain ⟨r, Γ1⟩ := z
  cases r with
  | d x =>
    intro v S1 hv
    exact p1 G1 H1 (Ext.rf S1.w) v S1 hv
  | c c =>
    intro v H2 S1 nc
    obtain ⟨d, hd, p1⟩ := Pst.ofO p1
    obtain ⟨G2, S2, e2, hv⟩ := NewC.frz S1 nc hd
    exact p1 G2 H2 e2 v S2 hv⟩
def rsS : Rs → Sl
  | .d x => .dat true x
  | .c c => .own c
def bSetX (i : Nat) (f : DX) : DS := fun Γ => (f Γ).bind fun z => .val (.nx, z.2.set i (rsS z.1))
theorem c1_setX (C : Cf0 X W sc N) (i : Nat) {x : Str} {p' : Pos} (hN : N[i]? = some x) (hv : Sto X sc x) (he : CX X W e f) (hs : swapsWith e (some (.Name x p')) pos.line X.env = pure false := by rfl) : C1 X W (.Assign [.Name x p'] e pos) (bSetX i f) := fun Γ => by
  have hx : Loc X.env.scope x := by rw [C.hsc]; exact hv.1
  refine ps_imp (ps_set (i := i) (by rw [C.hN]; exact C.nd) (by rw [C.hN]; exact hN) hx (he Γ) hs (by rw [C.hsc]; exact hv.2)) fun D σ H ⟨G, S, p⟩ => ⟨G, S, (Pst.bind p).imp fun z G1 H1 e1 p1 => ?_⟩
  obtain ⟨r, Γ1⟩ := z
  cases r with
  | d x =>
    intro v S1 hv
    exact p1 G1 H1 (Ext.rf S1.w) _ (S1.put i hv)
  | c c =>
    intro v H2 S1 nc
    obtain ⟨S2, e2⟩ := S1.putC i nc
    exact p1 G1 H2 e2 _ S2
def bRetX (f : DX) : DS := fun Γ => (f Γ).bind fun z => .val (.rt z.1, z.2)
theorem c1_retX (he : CX X W e f) : C1 X W (.Return (some e) pos) (bRetX f) := fun Γ =>
  ps_imp (ps_ret (he Γ)) fun D σ H ⟨G, S, p⟩ => ⟨G, S, (Pst.bind p).imp fun z G1 H1 e1 p1 => by
    obtain ⟨r, Γ1⟩ := z
    cases r with
    | d x =>
      intro v S1 hv
      exact p1 G1 H1 (Ext.rf S1.w) σ v S1 hv
    | c c =>
      intro v H2 S1 nc
      exact p1 G1 H1 (Ext.rf S1.w) σ v H2 S1 nc⟩
def bExprX (f : DX) : DS := fun Γ => (f Γ).bind fun z => (R.ofO (rsF z.1)).bind fun _ => .val (.nx, z.2)
theorem c1_exprX (he : CX X W e f) (hs : swapsWith e none pos.line X.env = pure false := by rfl) : C1 X W (.Expr e pos) (bExprX f) := by
  have h := c1_expr (pos := pos) (ce_x he) hs
  intro Γ
  have h := h Γ
  have e1 : bExpr (eX f) Γ = bExprX f Γ := by
    unfold bExpr eX bExprX
    cases f Γ with
    | bad => rfl
    | exc x => rfl
    | val z =>
      show (((R.ofO (rsF z.1)).bind fun d => R.val (AV.d true d, z.2)).bind fun z => R.val (Fw.nx, z.2)) = (R.ofO (rsF z.1)).bind fun _ => R.val (Fw.nx, z.2)
      cases rsF z.1 <;> rfl
  rw [e1] at h
  exact h
end
end PD
set_option Elab.async false
set_option linter.all false
set_option maxRecDepth 100000
set_option maxHeartbeats 4000000
set_option autoImplicit false
namespace PD
open PySem L2
section
variable {X : Cx} {W : WX} {sc : Scope} {N : List Str} {a b e : Expr} {es : List Expr} {pos p p2 : Pos} {f g : DF}
def cutX (x : AV × List Sl) (l h : Option Int × List Sl) : R (Rs × List Sl) := match lsA h.2 x.1 with
  | some ds => .val (.c (.lst (cutD ds l.1 h.1)), h.2)
  | none => match x.1 with
    | .d fr (.tuple ds) => gq (fr || flat.flatA ds) (.d (.tuple (cutD ds l.1 h.1)), h.2)
    | _ => .bad
def xCut (f : DF) (lo hi : DO) : DX := fun Γ => (f Γ).bind fun x => (lo x.2).bind fun l => (hi l.2).bind fun h => cutX x l h
theorem cx_cut {lo hi : Option Expr} {fl fh : DO} (ha : CE X W a f) (hl : CO X W lo fl) (hh : CO X W hi fh) : CX X W (.Subscript a (.Slice lo hi none p2) pos) (xCut f fl fh) := fun Γ =>
  pe_imp (pe_slice (sl_list.or sl_tupA) (ha Γ) (po_any fun x : AV × List Sl => hl x.2) (po_any fun x : Option Int × List Sl => hh x.2)) fun σ H Q ⟨G, S, q⟩ => ⟨G, S, (Pst.bind q).imp fun x G1 H1 e1 q1 v S1 hv => ⟨x, G1, S1, (Pst.bind q1).imp fun l G2 H2 e2 q2 S2 => ⟨l, G2, S2, (Pst.bind q2).imp fun h G3 H3 e3 q3 S3 => by
    have hv := hv.ext (e2.tr e3)
    unfold cutX at q3
    split at q3
    · rename_i ds hd
      obtain ⟨p, xs, rfl, g1, g2⟩ := lsA_ok hd S3 hv
      exact .inl ⟨p, xs, rfl, g1, fun r hr => q3 G3 H3 (Ext.rf S3.w) _ _ S3 (newc_lst hr (g2.cut _ _))⟩
    · split at q3
      · rename_i fr ds hx
        rw [hx] at hv
        obtain ⟨hc, q3⟩ := Pst.req q3
        obtain ⟨r, xs, rfl, g1, g2⟩ := dn_tupleH hv
        have g2 := g2.fresh hc
        refine .inr ⟨r, xs, rfl, SqT.of g1, fun hw => ?_, fun hw t ht => ?_⟩
        · refine q3 G3 H3 (Ext.rf S3.w) _ S3 ?_
          rw [g2.length] at hw
          show Dn X.K (rg G3 true) H3 _ (.tuple (cutD ds l.1 h.1))
          rw [cut_whole ds hw]
          exact .tup g1 g2
        · obtain ⟨G4, S4, e4, h4⟩ := S3.newTup ht (g2.cut l.1 h.1)
          exact q3 G4 _ e4 _ S4 h4
      · exact q3.elim⟩⟩⟩
theorem spU_law {K : PySem.W.Frag} {mg : Str → Option Value} {H : Hp} {a : Addr} {ns : List Int} {m : List Ar → R (Rs × List Sl)} (h : m [.d (.list (ns.map PyData.int))] = .val (.d (.bool true), [.un])) (hS : SqL K H a (ns.map V.int)) : spU K mg m [.ref a] H (fun v _ => v = .bl true) fun _ _ _ => False := by
  refine ⟨[.d (.list (ns.map PyData.int))], fun _ => [], [], fun _ => none, ?_, ?_⟩
  · refine argsD (ds := [.list (ns.map PyData.int)]) (.cons (.lst ((LsR.of_sq hS).mono fun _ _ z => ⟨z, by simp⟩) (ints_dna ns)) .nil) (fun a o h => by cases h)
  · rw [h]
    exact fun H' N F' _ v hv => dn_bool hv
end
end PD
set_option Elab.async false
set_option linter.all false
set_option maxRecDepth 100000
set_option maxHeartbeats 4000000
set_option autoImplicit false
namespace PD
open PySem PySem.Spec L2
open PyProof.Rows hiding St
section
variable {X : Cx} {W : WX} {sc : Scope} {N : List Str} {a b c e : Expr} {es : List Expr} {pos p p2 q2 : Pos} {f g h : DF}
def cLrg (i j : Int) : Bool := cRng i j && decide ((j - i).toNat ≤ 2 ^ 24)
def dLrng1 (f : DF) : DN := fun Γ => (f Γ).bind fun z => (R.ofO (intA z.1)).bind fun j => gq (cLrg 0 j) ((rng 0 j).map PyData.int, z.2)
def dLrng2 (f g : DF) : DN := fun Γ => (f Γ).bind fun z => (g z.2).bind fun y => (R.ofO (intA z.1)).bind fun i => (R.ofO (intA y.1)).bind fun j => gq (cLrg i j) ((rng i j).map PyData.int, y.2)
end
end PD
set_option Elab.async false
set_option linter.all false
set_option maxRecDepth 100000
set_option maxHeartbeats 4000000
set_option autoImplicit false
namespace PD
open PySem L2
def ItK (t : Bool) (h : Heap) (it l : Addr) (i : Nat) : Prop := match t with
  | true => h.IsTupleIter it l i
  | false => h.IsListIter it l i
def SqK (t : Bool) (h : Heap) (l : Addr) (xs : Array Value) : Prop := match t with
  | true => h.IsTuple l xs
  | false => h.IsList l xs
theorem ItK.e {t : Bool} {h h' : Heap} {it b l : Addr} {i : Nat} (x : ItK t h it l i) (hs : Heap.ExtBut b h h') (n : it ≠ b) : ItK t h' it l i := by
  cases t
  · exact Heap.IsListIter.extBut x hs n
  · exact Heap.IsTupleIter.extBut x hs n
theorem ItK.at {t : Bool} {h h' : Heap} {it l : Addr} {i : Nat} (x : ItK t h it l i) (k : ∀ o, h.get? it = some o → h'.get? it = some o) : ItK t h' it l i := by
  cases t
  · exact Heap.IsListIter.at x k
  · exact Heap.IsTupleIter.at x k
theorem ItK.ob {t : Bool} {h : Heap} {it l : Addr} {i : Nat} (x : ItK t h it l i) : ∃ o fs, h.get? it = some o ∧ o.data = .fields fs := by
  cases t
  · obtain ⟨o, h1, _, h2⟩ := x; exact ⟨o, _, h1, h2⟩
  · obtain ⟨o, h1, _, h2⟩ := x; exact ⟨o, _, h1, h2⟩
theorem SqK.e {t : Bool} {h h' : Heap} {l b : Addr} {xs : Array Value} (x : SqK t h l xs) (hs : Heap.ExtBut b h h') (n : l ≠ b) : SqK t h' l xs := by
  cases t
  · exact Heap.IsList.extBut x hs n
  · exact Heap.IsTuple.extBut x hs n
theorem SqK.p {t : Bool} {h : Heap} {l : Addr} {xs : Array Value} (x : SqK t h l xs) (o : Obj) : SqK t (h.push o) l xs := by
  cases t
  · exact Heap.IsList.push x o
  · exact Heap.IsTuple.push x o
section
variable {prog : Program} {w : World} {A : Around} {E : Value → Shared → Prop} {s : Shared}
variable {t1 t2 : Bool} {z TI TO i1 i2 l1 l2 : Addr} {k1 k2 : Nat} {xs ys : Array Value}
end
end PD
set_option Elab.async false
set_option linter.all false
set_option maxRecDepth 100000
set_option maxHeartbeats 4000000
set_option autoImplicit false
namespace PD
open PySem L2
section
variable {prog : Program} {w : World} {A : Around} {E : Value → Shared → Prop} {s : Shared} {t1 t2 : Bool}
variable {z TI TO i1 i2 l1 l2 : Addr} {k1 k2 : Nat} {xs ys : Array Value}
end
end PD
set_option Elab.async false
set_option linter.all false
set_option maxRecDepth 100000
set_option maxHeartbeats 4000000
set_option autoImplicit false
namespace PD
open PySem L2
section
variable {X : Cx} {W : WX} {sc : Scope} {N : List Str} {e e2 : Expr} {pos p : Pos} {f g : DF}
end
end PD
set_option Elab.async false
set_option linter.all false
set_option maxRecDepth 100000
set_option maxHeartbeats 4000000
set_option autoImplicit false
namespace PD
open PySem L2
end PD
set_option Elab.async false
set_option linter.all false
set_option maxRecDepth 100000
set_option maxHeartbeats 4000000
set_option autoImplicit false
namespace PD
open PySem L2
section
variable {X : Cx} {W : WX} {sc : Scope} {N : List Str} {e : Expr} {es : List Expr} {pos p : Pos} {x : Str} {dvs : List V} {dds : List PyData} {m : List Ar → R (Rs × List Sl)}
end
end PD
set_option Elab.async false
set_option linter.all false
set_option maxRecDepth 100000
set_option maxHeartbeats 4000000
set_option autoImplicit false
namespace PD
open PySem L2
theorem upd_twice {H : Hp} {p : Addr} {a b : HO} : upd (upd H p a) p b = upd H p b := by
  funext q
  by_cases h : q = p
  · subst h; rw [upd_same, upd_same]
  · rw [upd_ne h, upd_ne h, upd_ne h]
section
variable {X : Cx} {W : WX} {sc : Scope} {N : List Str} {e : Expr} {pos p1 : Pos} {x : Str}
def nDic1 (i : Nat) (d : PyData) : DC := fun Γ => (R.ofO (intS Γ[i]?)).bind fun k => .val (.dic .k [(.int k, d)], Γ)
theorem cc_dic1 (C : Cf0 X W sc N) (i : Nat) {v : V} {d : PyData} (hN : N[i]? = some x) (hv : visB sc x = true) (he : PE X e (tC v)) (hvd : ∀ G H, Dn X.K G H v d) (hd : (x == ("__debug__" : Str)) = false := by decide +kernel) (hcd : (x == ("__classdict__" : Str)) = false := by decide +kernel) :
    CC X W (.Dict [some (.Name x p1)] [e] pos) (nDic1 i d) := fun Γ =>
  pe_imp (pe_disp (pps_cons (pe_nm C hN hv hd hcd) he pps_nil) rfl rfl (by simp) (by simp)) fun σ H Q ⟨G, S, q⟩ => by
    obtain ⟨k, hk, q⟩ := Pst.ofO q
    have hs : ∃ fr, Γ[i]? = some (.dat fr (.int k)) := by
      unfold intS at hk
      split at hk
      · cases hk; exact ⟨_, ‹_›⟩
      · cases hk
    obtain ⟨fr, hs⟩ := hs
    obtain ⟨A, T⟩ := id S
    obtain ⟨_, u, hu1, hu2⟩ := T.sl i _ hs
    have hu2 := dn_int hu2
    subst hu2
    intro p hp
    refine ⟨.int k, hu1, ?_⟩
    refine ⟨upd_same, [(.inl k, v)], rfl, (by decide : 1 ≤ 15), ?_⟩
    rw [upd_twice]
    exact q G H (Ext.rf S.w) _ _ S (newc_dic (t := .k) (vs := [v]) hp ⟨[(.inl k, v)], rfl, rfl, rfl⟩ (.cons (hvd _ _) .nil))
end
end PD
set_option Elab.async false
set_option linter.all false
set_option maxRecDepth 100000
set_option maxHeartbeats 4000000
set_option autoImplicit false
namespace PD
open PySem L2
inductive ArsOk (K : PySem.W.Frag) (H : Hp) (R : Rg) (B : Hp) : List V → List Ar → Prop
  | nil : ArsOk K H R B [] []
  | d {v : V} {vs : List V} {x : PyData} {as : List Ar} : Dn K R H v x → ArsOk K H R B vs as → ArsOk K H R B (v :: vs) (.d x :: as)
  | n {v : V} {vs : List V} {x : PyData} {as : List Ar} : Dn K (RN B) H v x → ArsOk K H R B vs as → ArsOk K H R B (v :: vs) (.n x :: as)
section
variable {K : PySem.W.Frag} {H : Hp} {R : Rg} {B : Hp}
theorem ArsOk.length : ∀ {vs : List V} {as : List Ar}, ArsOk K H R B vs as → vs.length = as.length
  | _, _, .nil => rfl
  | _, _, .d _ r => by simp [r.length]
  | _, _, .n _ r => by simp [r.length]
theorem ArsOk.dat : ∀ {vs : List V} {as : List Ar} {i : Nat} {x : PyData}, ArsOk K H R B vs as → as[i]? = some (.d x) → ∃ v, vs[i]? = some v ∧ Dn K R H v x
  | _, _, _, _, .nil, e => by simp at e
  | _, _, 0, _, .d h _, e => by simp at e; subst e; exact ⟨_, rfl, h⟩
  | _, _, 0, _, .n h _, e => by simp at e
  | _, _, i + 1, x, .d _ r, e => by obtain ⟨v, h1, h2⟩ := r.dat (i := i) (x := x) (by simpa using e); exact ⟨v, by simpa using h1, h2⟩
  | _, _, i + 1, x, .n _ r, e => by obtain ⟨v, h1, h2⟩ := r.dat (i := i) (x := x) (by simpa using e); exact ⟨v, by simpa using h1, h2⟩
theorem ArsOk.nat : ∀ {vs : List V} {as : List Ar} {i : Nat} {x : PyData}, ArsOk K H R B vs as → as[i]? = some (.n x) → ∃ v, vs[i]? = some v ∧ Dn K (RN B) H v x
  | _, _, _, _, .nil, e => by simp at e
  | _, _, 0, _, .n h _, e => by simp at e; subst e; exact ⟨_, rfl, h⟩
  | _, _, 0, _, .d h _, e => by simp at e
  | _, _, i + 1, x, .d _ r, e => by obtain ⟨v, h1, h2⟩ := r.nat (i := i) (x := x) (by simpa using e); exact ⟨v, by simpa using h1, h2⟩
  | _, _, i + 1, x, .n _ r, e => by obtain ⟨v, h1, h2⟩ := r.nat (i := i) (x := x) (by simpa using e); exact ⟨v, by simpa using h1, h2⟩
theorem ArsOk.split : ∀ {v1 v2 : List V} {as : List Ar}, ArsOk K H R B (v1 ++ v2) as → ArsOk K H R B v1 (as.take v1.length) ∧ ArsOk K H R B v2 (as.drop v1.length)
  | [], v2, as, h => ⟨.nil, h⟩
  | v :: v1, v2, _, .d h r => by obtain ⟨q1, q2⟩ := ArsOk.split (v1 := v1) r; exact ⟨.d h q1, q2⟩
  | v :: v1, v2, _, .n h r => by obtain ⟨q1, q2⟩ := ArsOk.split (v1 := v1) r; exact ⟨.n h q1, q2⟩
end
def rdAs (Γ : List Sl) (i : Option Nat) : List Bool → List AV → Option (List Ar)
  | _, [] => some []
  | true :: ms, .d fr x :: as => if fr || flat x then (rdAs Γ i ms as).map (.n x :: ·) else none
  | true :: _, .s _ :: _ => none
  | false :: ms, .d _ x :: as => (rdAs Γ i ms as).map (.d x :: ·)
  | false :: ms, .s j :: as => if some j = i then none else (rdW Γ j).bind fun x => (rdAs Γ i ms as).map (.d x :: ·)
  | [], .d _ x :: as => (rdAs Γ i [] as).map (.d x :: ·)
  | [], .s j :: as => if some j = i then none else (rdW Γ j).bind fun x => (rdAs Γ i [] as).map (.d x :: ·)
section
variable {X : Cx} {W : WX} {sc : Scope} {N : List Str} {x : Str} {e : Expr} {es : List Expr} {p pos : Pos} {k : DA} {dvs : List V} {dds : List PyData} {m : List Ar → R (Rs × List Sl)}
def xCallM (m : List Ar → R (Rs × List Sl)) (ms : List Bool) (dds : List PyData) (k : DA) : DX := fun Γ => (k Γ).bind fun z => (R.ofO (rdAs z.2 none ms z.1)).bind fun ars => ((m (ars ++ dds.map Ar.d)).atX z.2).bind fun r => .val (r.1, z.2)
end
end PD
set_option Elab.async false
set_option linter.all false
set_option maxRecDepth 100000
set_option maxHeartbeats 4000000
set_option autoImplicit false
namespace PD
open PySem L2
section
variable {X : Cx} {W : WX} {sc : Scope} {N : List Str} {a b e : Expr} {pos : Pos} {f g : DF}
def kIsB (_ : List Sl) : AV → AV → R Bool
  | .d _ (.bool x), .d _ (.bool y) => .val (decide (x = y))
  | _, _ => .bad
def kNisB (Γ : List Sl) (x y : AV) : R Bool := (kIsB Γ x y).bind fun z => .val (!z)
theorem ce_isnotB (ha : CE X W a f) (hb : CE X W b g) (hm : behindInMarks .IsNot b = false := by first | exact nobehind _ (by decide) (by decide) | rfl) : CE X W (.Compare a [.IsNot] [b] pos) (dCmp kNisB f g) :=
  ce_cmp2 (fun x y Γ2 => boolR (kNisB Γ2 x y) Γ2) op_isnot_bl hm ha hb fun x y Γ2 G H σ u v Q S hu hv p => by
    unfold kNisB kIsB at p
    split at p
    · exact ⟨_, _, dn_bool hu, dn_bool hv, Pk.v p S (.bl _)⟩
    · exact p.elim
end
end PD
set_option Elab.async false
set_option linter.all false
set_option maxRecDepth 100000
set_option maxHeartbeats 4000000
set_option autoImplicit false
namespace PD
open PySem L2
section
variable {X : Cx} {W : WX} {sc : Scope} {N : List Str} {pos : Pos}
end
end PD
set_option Elab.async false
set_option linter.all false
set_option maxRecDepth 100000
set_option maxHeartbeats 4000000
set_option autoImplicit false
namespace PD
open PySem PySem.Spec L2
open PyProof.Rows (AllBare)
def XO (cls : Value) (d : Option Addr) (a : Addr) : HO := .ext fun h => ∃ (oe : Obj) (vs : Array Value), h.get? a = some oe ∧ Zc cls d oe ∧ oe.data = .fields vs ∧ vs[2]? = some .none
theorem xo_ok {P : Program} {w : World} {H : Hp} {h : Heap} {a : Addr} {cls : Value} {d : Option Addr} {oe : Obj} {vs : Array Value} (e : h.get? a = some oe) (z : Zc cls d oe) (q : oe.data = .fields vs) (qn : vs[2]? = some .none) : ObjOk P w H h a (XO cls d a) := by
  refine ⟨⟨oe, vs, e, z, q, qn⟩, ⟨oe, e⟩, ?_⟩
  rintro h1 h2 ⟨o, v, y, r⟩ k
  exact ⟨o, v, k o y, r⟩
section
variable {X : Cx} {pins : List (Addr × Obj)} {σ : St} {H : Hp} {sI s' : Shared} {B : Heap}
theorem landX (J : Inv X pins σ H sI) (nb : ∀ b o, sI.heap.get? b = some o → b ∉ frs X.stack → B.get? b = some o) (st : B.StaysIn s'.heap) (up : sI.heap.UpToSlots s'.heap) (eo : s'.os = sI.os) (ag : AllBare s'.gens)
    {a : Addr} {oe : Obj} {vs : Array Value} {cls : Value} {d : Option Addr} (ea : s'.heap.get? a = some oe) (ez : Zc cls d oe) (ed : oe.data = .fields vs) (en : vs[2]? = some .none) (na : H a = none) (ns : sI.heap.get? a = none) :
    Inv X pins σ (upd H a (XO cls d a)) s' := by
  have fr : ∀ b ∈ frs X.stack, ∀ o, sI.heap.get? b = some o → ∃ sl, s'.heap.get? b = some { o with slots := sl } := by
    intro b hb o e
    obtain ⟨L, o2, e2, nf⟩ := J.stack.mem hb
    rw [e] at e2
    cases e2
    exact up b o e nf
  have ne : ∀ {b : Addr} {o : Obj}, sI.heap.get? b = some o → b ≠ a := fun {b o} e z => by
    rw [z, ns] at e
    cases e
  have un : Un (frs X.stack) [] H (upd H a (XO cls d a)) sI.heap s'.heap := {
    keep := fun b o e n hb hx => st b o (nb b o e hb)
    slot := fun b o e n hb hx => fr b hb o e
    free := fun b o e n hx => (upd_ne (ne e)).trans n
    there := fun b o e hx => by
      by_cases hb : b ∈ frs X.stack
      · exact (fr b hb o e).elim fun sl q => ⟨_, q⟩
      · exact ⟨o, st b o (nb b o e hb)⟩
    tups := fun b xs e => (upd_ne (ne_of_none e na)).trans e
    frzs := fun b o u e => (upd_ne (ne_of_none e na)).trans e
    tbls := fun b ps e => ⟨#[], by rw [upd_ne (ne_of_none e na), e]; simp⟩ }
  exact J.call' eo un (HOk.laidN (J.inGround nb) st na (xo_ok ea ez ed en)) ag fun b z => absurd z (by simp)
theorem suite0 (I : Inv X pins σ H s') (a : Addr) : Inv (X.suite a (X.pn ++ pins)) [] σ H s' := by
  refine ⟨I.ok.suite _ _, I.os, I.bare, I.base, I.loc, I.cell, I.free, I.freeC, fun p hp => I.pin p ?_, I.hok, I.len⟩
  have hp : p ∈ (X.pn ++ pins) ++ [] := hp
  rwa [List.append_nil] at hp
theorem unsuite0 {a : Addr} {qs : List (Addr × Obj)} (I : Inv (X.suite a (X.pn ++ pins)) qs σ H s') (ok : X.Ok) : Inv X pins σ H s' := by
  refine ⟨ok, I.os, I.bare, I.base, I.loc, I.cell, I.free, I.freeC, fun p hp => I.pin p ?_, I.hok, I.len⟩
  exact List.mem_append_left _ hp
end
def wV (K : PySem.W.Frag) (c : Value) (i : Nat) (ts : Addr → TS) (Wout : WX) (D : Ends) : WX := fun cls d σ H =>
  ∃ b, PySem.W.exmOne K cls c = some b ∧
    (b = true → ∀ a, H a = none → ts a { nx := fun σ1 H1 => D.nx (σ1.set i none) H1, rt := D.rt, bk := fun σ1 H1 => D.bk (σ1.set i none) H1, ct := fun σ1 H1 => D.ct (σ1.set i none) H1 } (σ.set i (some (.ref a))) (upd H a (XO cls d a))) ∧
    (b = false → Wout cls d σ H)
section
variable {X : Cx} {x n : Str} {c : Value} {i : Nat} {body suite : List Stmt} {b0 : Stmt} {np pos pos2 : Pos} {tb : WX → TS} {ts : Addr → TS} {Wout : WX}
theorem ps_try_v (hs : X.stack = X.env :: X.outer) (hf : X.env.frame = some X.env.locals) (hN : X.N.Nodup) (hi : X.N[i]? = some n) (hln : X.env.kindOf n = some .local) (hc : Names X x c) (tk : L2N.Takes X Wout)
    (hb : ∀ (W : WX) (pn : List (Addr × Obj)) (xe : Value → Shared → Prop), L2N.Takes (X.tr pn xe) W → PassesOwn (model X.prog X.w) X.A X.env xe → PSs (X.tr pn xe) body (tb W))
    (hsu : ∀ (a : Addr) (pn : List (Addr × Obj)), PSs (X.suite a pn) (b0 :: suite) (ts a)) :
    PS X (.Try body [.ExceptHandler (some (.Name x np)) (some n) (b0 :: suite) pos2] [] [] pos) (fun D σ H => tb (wV X.K c i ts Wout D) D σ H) := by
  refine ⟨fun pins s σ H D I h => ?_⟩
  have ok := I.ok
  let hd : List ExceptHandler := [.ExceptHandler (some (.Name x np)) (some n) (b0 :: suite) pos2]
  let xe : Value → Shared → Prop := fun e s1 => wpAny (model X.prog X.w) X.A (noteFrame e X.env) (fun _ s2 => wpAny (model X.prog X.w) X.A (setFlight e none) (fun _ s3 =>
    wpAny (model X.prog X.w) X.A (handleBy e X.env hd) (SP X pins D) X.xe s3) X.xe s2) X.xe s1
  have catch_ : L2N.Takes (X.tr (X.pn ++ pins) xe) (wV X.K c i ts Wout D) := by
    rintro u s1 ⟨a, B, sI, pins', σ', H', cls, d, rfl, J', nb, up, sky, na, eo, ag, b, hb1, hyes, hno⟩
    have J : Inv X pins σ' H' sI := J'.ofTry ok
    have sky2 : Sky B (X.env :: X.outer) a (L2N.Zn cls d) X.env.locals s1.heap := by
      rw [← hs]
      exact sky
    have hfr : X.A.frames = some (X.env :: X.outer) := by rw [ok.frames, hs]
    have na0 : B.get? a = none := by
      rcases sky2 with z | z | z
      · exact z.2.1
      · exact z.2.1
      · exact z.2.1
    show wpAny (model X.prog X.w) X.A (noteFrame (.ref a) X.env) _ _ _
    refine L2N.Sky.land L2N.Zn.steady hfr hf sky2 fun g1 fl1 up1 => ?_
    obtain ⟨o1, v1, e1, z1, d1⟩ := fl1.there
    have ns : sI.heap.get? a = none := by
      cases q : sI.heap.get? a with
      | none => rfl
      | some o =>
        by_cases hm : a ∈ frs X.stack
        · obtain ⟨L, o2, e2, nf⟩ := J.stack.mem hm
          obtain ⟨sl, e3⟩ := (up.trans up1) a o2 e2 nf
          have e4 : some o1 = some { o2 with slots := sl } := e1.symm.trans e3
          cases e4
          exact absurd d1 (nf v1)
        · have := nb a o q hm
          rw [na0] at this
          cases this
    have J1 : Inv X pins σ' (upd H' a (XO cls d a)) { s1 with heap := g1 } := landX (s' := { s1 with heap := g1 }) J nb fl1.1 (up.trans up1) eo ag e1 z1.zc d1 (z1.2.2 v1 d1) na ns
    refine wpAny_handleBy_cons (codeAny_handlers_test ?_) (by intro q; cases q)
    have LT : PySem.W.Looks (model X.prog X.w) g1 (typeOf (.ref a)) cls := fun A Q E s k q => wpAny_typeOf_ref (k _ _ e1) (by rw [z1.1]; exact q)
    have LM := PySem.W.exm_one (M := model X.prog X.w) J1.kIn LT hb1
    have test : ∀ {Q : Value → Shared → Prop} {E : Value → Shared → Prop}, Q c { s1 with heap := g1 } → wpAny (model X.prog X.w) (X.A.mark (some (.ref a))) (eval (.Name x np) X.env) Q E { s1 with heap := g1 } := by
      intro Q E q
      obtain ⟨hg, hdb, hm | ⟨hm, hv, hnn⟩⟩ := hc
      · exact ld_glob (suite0 J1 a) hg hm q hdb
      · exact ld_blt (suite0 J1 a) hg hm hv q hnn hdb
    refine test (LM.here ?_)
    cases b with
    | true =>
      refine codeAny_handlers_suite_as (HandSPX.lands_againZ fl1 fun g2 fl2 up2 => ?_)
      obtain ⟨o2, v2, e2, z2, d2⟩ := fl2.there
      have J2 : Inv X pins σ' (upd H' a (XO cls d a)) { s1 with heap := g2 } := landX (s' := { s1 with heap := g2 }) J nb fl2.1 ((up.trans up1).trans up2) eo ag e2 z2.zc d2 (z2.2.2 v2 d2) na ns
      refine store_ok (X := X.suite a (X.pn ++ pins)) (v := .ref a) (suite0 J2 a) hN hi (.inl hln) rfl (fun s2 S2 => ?_) (.inr hln)
      refine wpAny_mono ((hsu a (X.pn ++ pins)).run [] s2 _ _ _ S2 (hyes rfl a na)) (fun f s3 hsp => ?_) (fun _ _ z => False.elim z)
      have fin : ∀ {σ3 : St} {H3 : Hp} {Q : Shared → Prop}, Inv (X.suite a (X.pn ++ pins)) [] σ3 H3 s3 → (∀ s4, Inv X pins (σ3.set i none) H3 s4 → Q s4) → wpAny (model X.prog X.w) X.A (do bindName X.env n .none; unbindBehindTheSuite X.env n pos2) (fun _ s4 => Q s4) X.xe s3 :=
        fun {σ3 H3 Q} S3 hq => gone_ok (unsuite0 S3 ok) hN hi hln hq
      cases f with
      | next =>
        obtain ⟨σ3, H3, S3, q3⟩ := hsp
        exact fin S3 fun s4 J4 => ⟨_, _, J4, q3⟩
      | brk =>
        obtain ⟨σ3, H3, S3, q3⟩ := hsp
        exact fin S3 fun s4 J4 => ⟨_, _, J4, q3⟩
      | cont =>
        obtain ⟨σ3, H3, S3, q3⟩ := hsp
        exact fin S3 fun s4 J4 => ⟨_, _, J4, q3⟩
      | ret u =>
        obtain ⟨v3, σ3, H3, S3, r3, q3⟩ := hsp
        exact fin S3 fun s4 J4 => ⟨_, _, _, J4, r3, q3⟩
    | false =>
      show wpAny _ X.A (handleBy (.ref a) X.env []) _ _ _
      refine wpAny_handleBy_nil ?_
      obtain ⟨k1, k2, k3, oe, vs, T, oT, us, he, hz, hd, h1, hr⟩ := id fl1
      unfold PySem.passOn
      refine wpAny_bind (wpAny_field he hd h1 ?_)
      rw [if_neg (show ¬ ((Value.ref T == Value.none) = true) from by simp)]
      have out : wpAny (model X.prog X.w) X.A (setFlight (.ref a) X.env.frame) (fun _ s4 => wpAny (model X.prog X.w) X.A (throw (.ref a) : Sem Flow) (SP X pins D) X.xe s4) X.xe { s1 with heap := g1 } := by
        rw [hf]
        refine HandSPX.setFlight_upZ fl1 fun g4 hh4 up4 => wpAny_throw (tk _ _ ?_)
        exact ⟨a, B, sI, pins, σ', H', cls, d, rfl, J, nb, (up.trans up1).trans up4, .inr (.inr (by rw [hs]; exact hh4)), na, eo, ag, hno rfl⟩
      first
        | exact wpAny_bind (wpAny_pure (wpAny_bind out))
        | exact wpAny_bind out
  refine wpAny_Try_except (wpAny_mono ((hb _ (X.pn ++ pins) xe catch_ PassesOwn.looking).run [] s σ H D (I.toTry _) h) (fun f s1 hsp => ?_) fun e s1 he => he)
  cases f with
  | next =>
    obtain ⟨σ1, H1, J1, q⟩ := hsp
    exact wpAny_execs_nil ⟨σ1, H1, J1.ofTry ok, q⟩
  | brk =>
    obtain ⟨σ1, H1, J1, q⟩ := hsp
    exact ⟨σ1, H1, J1.ofTry ok, q⟩
  | cont =>
    obtain ⟨σ1, H1, J1, q⟩ := hsp
    exact ⟨σ1, H1, J1.ofTry ok, q⟩
  | ret u =>
    obtain ⟨v, σ1, H1, J1, r, q⟩ := hsp
    exact ⟨v, σ1, H1, J1.ofTry ok, r, q⟩
end
end PD
set_option Elab.async false
set_option linter.all false
set_option maxRecDepth 100000
set_option maxHeartbeats 4000000
set_option autoImplicit false
namespace PD
open PySem PySem.Spec L2
open PyProof.Rows (AllBare)
structure XF (K : PySem.W.Frag) (C : Addr) : Prop where
  cl : (PySem.W.clsIn K C).isSome = true
  ga : PySem.W.findIn K (.ref C) "__getattribute__" = some (some (.builtin "BaseException.__getattribute__"))
  gt : PySem.W.findIn K (.ref C) "__getattr__" = some none
  sb : PySem.W.subIn K (.ref C) (.type "BaseException") = some true
  hd : PySem.W.hasDictIn K C = true
  ca : PySem.W.findIn K (.ref C) "__class__" = some (some (.builtin "object.__class__"))
  gn : PySem.W.specialIn K (.builtin "object.__class__") "__get__" = some (some (.builtin "getset_descriptor.__get__"))
  tk : PySem.W.takesIn K (.builtin "object.__class__") = some true
  mo : PySem.W.mroIn K C (.type "object") = some true
  ty : PySem.W.typeIn K (.ref C) = some (.type "type")
theorem xfb_ok {K : PySem.W.Frag} {c : Str} (h : xfb K c = true) : XF K (He.ga K c) := by
  unfold xfb at h
  simp only [Bool.and_eq_true] at h
  obtain ⟨h1, h2, h3, h4, h5, h6, h7, h8, h9, h10⟩ := h
  exact ⟨h1, of_decide_eq_true h2, of_decide_eq_true h3, of_decide_eq_true h4, h5, of_decide_eq_true h6, of_decide_eq_true h7, of_decide_eq_true h8, of_decide_eq_true h9, of_decide_eq_true h10⟩
def clW (K : PySem.W.Frag) (d : Str) : V := if d = "ValueError" then .ty "ValueError" else .ref (He.ga K d)
theorem cl_cls (K : PySem.W.Frag) (d : Str) : ClsV (clW K d) (clU K d) := by
  unfold clW clU
  split
  · exact .ty _
  · exact .own _
structure XAll (K : PySem.W.Frag) (mg : Str → Option Value) (xs ds hs fs : List Str) : Prop where
  mgc : ∀ c ∈ xs, mg c = some (.ref (He.ga K c))
  mgd : ∀ d ∈ ds, d ≠ "ValueError" → mg d = some (.ref (He.ga K d))
  mgh : ∀ d ∈ hs, mg d = some (.ref (He.ga K d))
  xf : ∀ c ∈ xs, XF K (He.ga K c)
  kn : ∀ d ∈ ds, PySem.W.kitOne K (.type "NoneType") (clU K d) = some false
  kit : ∀ d ∈ ds, ∀ c ∈ xs, PySem.W.kitOne K (.ref (He.ga K c)) (clU K d) = some (exIs c d)
  exm : ∀ d ∈ hs, ∀ c ∈ xs, PySem.W.exmOne K (.ref (He.ga K c)) (.ref (He.ga K d)) = some (exIs c d)
  fld : ∀ c ∈ xs, ∀ f ∈ fs, PySem.W.findIn K (.ref (He.ga K c)) f = some none
theorem xall_ok {K : PySem.W.Frag} {mg : Str → Option Value} {xs ds hs fs : List Str} (h : xallB K xs ds hs fs = true) (m1 : ∀ c ∈ xs, mg c = some (.ref (He.ga K c))) (m2 : ∀ d ∈ ds, d ≠ "ValueError" → mg d = some (.ref (He.ga K d)))
    (m3 : ∀ d ∈ hs, mg d = some (.ref (He.ga K d))) : XAll K mg xs ds hs fs := by
  unfold xallB at h
  simp only [Bool.and_eq_true, List.all_eq_true] at h
  obtain ⟨h1, h2, h3, h4⟩ := h
  refine ⟨m1, m2, m3, fun c hc => xfb_ok (h1 c hc), fun d hd => ?_, fun d hd c hc => ?_, fun d hd c hc => ?_, fun c hc f hf => of_decide_eq_true (h4 c hc f hf)⟩
  · have := h2 d hd
    unfold kitF at this
    exact of_decide_eq_true (Bool.and_eq_true_iff.mp this).1
  · have := h2 d hd
    unfold kitF at this
    exact of_decide_eq_true (List.all_eq_true.mp (Bool.and_eq_true_iff.mp this).2 c hc)
  · have := h3 d hd
    unfold exmF at this
    exact of_decide_eq_true (List.all_eq_true.mp this c hc)
def TyY (K : PySem.W.Frag) (H : Hp) (v : V) (t : Value) : Prop :=
  TyX K H v t ∨ ∃ (a : Addr) (c : Str) (d : Option Addr), v = .ref a ∧ H a = some (XvO K c d a) ∧ (∀ e, d = some e → ∃ fs, H e = some (.xd fs)) ∧ XF K (He.ga K c) ∧ t = .ref (He.ga K c)
section
variable {X : Cx} {pins : List (Addr × Obj)} {σ : St} {H : Hp} {s : Shared}
theorem xvo_inst {a : Addr} {c : Str} {d : Option Addr} (I : Inv X pins σ H s) (h : H a = some (XvO X.K c d a)) (hd : ∀ e, d = some e → ∃ fs, H e = some (.xd fs)) : ∃ oe od, PySem.W.InstAt s.heap a oe (He.ga X.K c) od := by
  obtain ⟨⟨oe, vs, g, z, q, _⟩, _⟩ := (show ObjOk X.prog X.w H s.heap a (XvO X.K c d a) from I.hok a _ h)
  have nc : PySem.W.notCls oe = true := by
    unfold PySem.W.notCls
    rw [q] <;> rfl
  cases d with
  | none => exact ⟨oe, none, g, z.1, nc, by rw [z.2]; trivial⟩
  | some e =>
    obtain ⟨fs, hf⟩ := hd e rfl
    obtain ⟨mA, hns, hr⟩ := (show ObjOk X.prog X.w H s.heap e (.xd fs) from I.hok e _ hf)
    obtain ⟨od, ho, hl⟩ := lookIn_ns hns
    exact ⟨oe, some od, g, z.1, nc, by rw [z.2]; exact ho⟩
theorem kit_y {x : V} {u t : Value} (I : Inv X pins σ H s) (rx : RelV x u) (ty : TyY X.K H x t) : ∃ P : Heap → Prop, PySem.W.KitX X.K u t P ∧ P s.heap ∧ u ≠ .builtin "__main__.__loader__#opaque" := by
  rcases ty with ty | ⟨a, c, d, rfl, h, hd, F, rfl⟩
  · exact kit_of I rx ty
  · cases (show u = Value.ref a from rx)
    obtain ⟨oe, od, J⟩ := xvo_inst I h hd
    exact ⟨_, PySem.W.kitx_exc (x := a) (ox := oe) (od := od) F.cl F.ga F.gt F.sb F.ca F.gn F.tk F.mo, J, fun z => nomatch z⟩
end
def rIsiY (K : PySem.W.Frag) : List V → Hp → VK → Prop := fun xs H Q => ∃ (x c : V) (t u : Value) (b : Bool), xs = [x, c] ∧ ClsV c u ∧ TyY K H x t ∧ PySem.W.kitOne K t u = some b ∧ Q (.bl b) H
theorem vals_two {x c : V} {us : List Value} (r : Vals [x, c] us) : ∃ u1 u2, us = [u1, u2] ∧ RelV x u1 ∧ RelV c u2 := by
  cases r with
  | cons a r =>
    cases r with
    | cons b r =>
      cases r
      exact ⟨_, _, rfl, a, b⟩
theorem call_isiY {X : Cx} : CallR X (.builtin "isinstance") (rIsiY X.K) := by
  rintro pins s σ H xs us Q I r ⟨x, c, t, u, b, rfl, k, ty, e, q⟩
  obtain ⟨u1, u2, rfl, r1, r2⟩ := vals_two r
  cases k.eq r2
  obtain ⟨P, Z, p, hx⟩ := kit_y I r1 ty
  exact PySem.W.kia_one Z I.kIn p e hx fun tk => ⟨.bl b, H, I.tok tk, rfl, q⟩
def dIsx (xs Ds : List Str) (f : DF) : DF := fun Γ => (f Γ).bind fun x => match x.1 with
  | .d _ .none => .val (.d true (.bool false), x.2)
  | .d _ (.dict ((.none, .str c) :: _)) => gq (xs.contains c) (.d true (.bool (Ds.any (exIs c))), x.2)
  | _ => .bad
theorem dn_xc {K : PySem.W.Frag} {G : Rg} {H : Hp} {v : V} {c : Str} {kvs : List (PyData × PyData)} (h : Dn K G H v (.dict ((.none, .str c) :: kvs))) :
    ∃ a d, v = .ref a ∧ G a (XvO K c d a) ∧ ((d = none ∧ kvs = []) ∨ ∃ (dd : Addr) (fs : List (Str × V)) (flds : List (Str × PyData)), d = some dd ∧ G dd (.xd fs) ∧ kvs = flds.map (fun z : Str × PyData => (PyData.str z.1, z.2)) ∧ fs.map (·.1) = flds.map (·.1) ∧ DnA K G H (fs.map (·.2)) (flds.map (·.2))) := by
  cases h with
  | @dct a o t vs _ g ho ha =>
    exfalso
    cases t with
    | k =>
      obtain ⟨ks, _, h1, _⟩ := ho
      cases ks with
      | nil => cases h1
      | cons z r =>
        have h1 : PyData.none = keyD z.1 := (List.cons.inj h1).1
        cases hz : z.1 <;> rw [hz] at h1 <;> cases h1
    | t =>
      obtain ⟨ks, _, h1, _⟩ := ho
      cases ks with
      | nil => cases h1
      | cons z r =>
        have h1 := (List.cons.inj h1).1
        cases h1
    | n =>
      obtain ⟨rs, _, _, _, _, _, hv⟩ := ho
      subst hv
      have ha : DnA K G H (encV rs) (PyData.str c :: kvs.map (·.2)) := ha
      cases ha with
      | cons h1 _ => cases h1
  | exc g1 g2 e a => exact ⟨_, _, rfl, g1, .inr ⟨_, _, _, rfl, g2, rfl, e, a⟩⟩
  | exc0 g => exact ⟨_, _, rfl, g, .inl ⟨rfl, rfl⟩⟩
theorem dn_tyy {K : PySem.W.Frag} {H : Hp} {v : V} {c : Str} {kvs : List (PyData × PyData)} (h : Dn K (RgH H) H v (.dict ((.none, .str c) :: kvs))) (F : XF K (He.ga K c)) : TyY K H v (.ref (He.ga K c)) := by
  obtain ⟨a, d, rfl, g, q⟩ := dn_xc h
  refine .inr ⟨a, c, d, rfl, g, fun e he => ?_, F, rfl⟩
  rcases q with ⟨q, _⟩ | ⟨dd, fs, _, q, g2, _⟩
  · rw [q] at he
    cases he
  · rw [q] at he
    cases he
    exact ⟨fs, g2⟩
section
variable {X : Cx} {W : WX} {sc : Scope} {N : List Str} {xs ds hs fs : List Str} {e : Expr} {p p2 p3 pos : Pos} {f : DF}
theorem pe_cls (C : Cf0 X W sc N) (F : XAll X.K X.mg xs ds hs fs) {D : Str} (hD : D ∈ ds) (hg : glB sc D = true) (hm : D = "ValueError" → X.mg D = none) (hdb : (D == ("__debug__" : Str)) = false := by decide +kernel) : PE X (.Name D p) (tC (clW X.K D)) := by
  by_cases h : D = "ValueError"
  · subst h
    have hv : bootBuiltins "ValueError" = some (.type "ValueError") := PyProof.Rows.Boot.«ValueError»
    exact pe_bltn (C.gl hg) (hm rfl) hv rfl (by decide +kernel) (by decide +kernel)
  · have e1 : clW X.K D = .ref (He.ga X.K D) := if_neg h
    rw [e1]
    exact pe_glob (C.gl hg) (F.mgd D hD h) rfl hdb
theorem ce_isx (C : Cf0 X W sc N) (F : XAll X.K X.mg xs ds hs fs) (D : Str) (hg : glB sc "isinstance" = true) (hm : X.mg "isinstance" = none) (hD : D ∈ ds) (hgD : glB sc D = true) (hmD : D = "ValueError" → X.mg D = none) (ha : CE X W e f)
    (hdD : (D == ("__debug__" : Str)) = false := by decide +kernel) (hst : starEach [e, .Name D p2] X.env = (false, eval e X.env) :: starEach [.Name D p2] X.env := by rfl) (hst2 : starEach [.Name D p2] X.env = (false, eval (.Name D p2) X.env) :: starEach [] X.env := by rfl) :
    CE X W (.Call (.Name "isinstance" p) [e, .Name D p2] [] pos) (dIsx xs [D] f) := fun Γ => by
  have hT : PE X (.Name D p2) (tC (clW X.K D)) := pe_cls C F hD hgD hmD hdD
  refine pe_imp (pe_callB call_isiY (C.gl hg) hm PyProof.Rows.boot_isinstance (pa_cons (ha Γ) (pa_cons hT pa_nil hst2) hst) (by decide +kernel) (by decide +kernel) hst (by rw [hst2]; rfl)) fun σ H Q ⟨G, S, q⟩ => ⟨G, S, (Pst.bind q).imp fun x G1 H1 e1 p1 v S1 hv => ?_⟩
  split at p1
  · rename_i fr hx
    rw [hx] at hv
    cases dn_none hv
    refine ⟨.non, clW X.K D, .type "NoneType", clU X.K D, false, rfl, cl_cls _ _, .inl (.base .non), F.kn D hD, ?_⟩
    exact p1 G1 H1 (Ext.rf S1.w) (.bl false) S1 (.bl _)
  · rename_i fr c kvs hx
    rw [hx] at hv
    obtain ⟨hc, p1⟩ := Pst.gq S1.w p1
    have hc : c ∈ xs := by simpa using hc
    have hv : Dn X.K (RgH H1) H1 v (.dict ((.none, .str c) :: kvs)) := S1.w.dn hv
    refine ⟨v, clW X.K D, .ref (He.ga X.K c), clU X.K D, exIs c D, rfl, cl_cls _ _, dn_tyy hv (F.xf c hc), F.kit D hD c hc, ?_⟩
    refine p1 (.bl (exIs c D)) S1 ?_
    show Dn _ _ _ _ (.bool (exIs c D || false))
    rw [Bool.or_false]
    exact .bl _
  · exact p1.elim
inductive ClNs (X : Cx) (sc : Scope) (ds : List Str) : List Expr → List Str → Prop
  | nil : ClNs X sc ds [] []
  | cons {D : Str} {p : Pos} {es : List Expr} {Ds : List Str} : D ∈ ds → glB sc D = true → (D = "ValueError" → X.mg D = none) → (D == ("__debug__" : Str)) = false → starEach (.Name D p :: es) X.env = (false, eval (.Name D p) X.env) :: starEach es X.env → ClNs X sc ds es Ds → ClNs X sc ds (.Name D p :: es) (D :: Ds)
theorem ClNs.mem {es : List Expr} {Ds : List Str} (h : ClNs X sc ds es Ds) : ∀ d ∈ Ds, d ∈ ds := by
  induction h with
  | nil => intro d hd; cases hd
  | cons h1 _ _ _ _ _ ih =>
    intro d hd
    rcases List.mem_cons.mp hd with z | z
    · rw [z]; exact h1
    · exact ih d z
def fldA (f : Str) : List (PyData × PyData) → Option PyData
  | (.str x, d) :: r => if x = f then some d else fldA f r
  | _ => none
def dAtt (xs : List Str) (n : Str) (f : DF) : DF := fun Γ => (f Γ).bind fun x => match x.1 with
  | .d fr (.dict ((.none, .str c) :: kvs)) => (R.req (xs.contains c)).bind fun _ => (R.ofO (fldA n kvs)).bind fun d => .val (.d fr d, x.2)
  | _ => .bad
theorem fldA_ok {K : PySem.W.Frag} {G : Rg} {H : Hp} {n : Str} {d : PyData} : ∀ {fl : List (Str × V)} {flds : List (Str × PyData)}, fl.map (·.1) = flds.map (·.1) → DnA K G H (fl.map (·.2)) (flds.map (·.2)) →
    fldA n (flds.map fun z => (PyData.str z.1, z.2)) = some d → ∃ v, fl.lookup n = some v ∧ Dn K G H v d
  | [], [], _, _, h => by cases h
  | [], _ :: _, e, _, _ => by cases e
  | _ :: _, [], e, _, _ => by cases e
  | (x, v) :: fl, (y, z) :: flds, e, a, h => by
    have e1 : x = y := (List.cons.inj e).1
    have e2 := (List.cons.inj e).2
    subst e1
    cases a with
    | cons a1 a2 =>
      have h : (if x = n then some z else fldA n (flds.map fun z => (PyData.str z.1, z.2))) = some d := h
      by_cases q : x = n
      · rw [if_pos q] at h
        cases h
        subst q
        exact ⟨v, by simp [List.lookup], a1⟩
      · rw [if_neg q] at h
        obtain ⟨w, h1, h2⟩ := fldA_ok e2 a2 h
        refine ⟨w, ?_, h2⟩
        have : (n == x) = false := by simpa using Ne.symm q
        simp only [List.lookup, this]
        exact h1
theorem ce_att (C : Cf0 X W sc N) (F : XAll X.K X.mg xs ds hs fs) {n : Str} (hn : n ∈ fs) (ha : CE X W e f) (hb : attributeBase e n X.env (eval e X.env) = eval e X.env := by rfl) : CE X W (.Attribute e n pos) (dAtt xs n f) := fun Γ => by
  refine ⟨fun pins s σ H Q I ⟨G, S, q⟩ => ?_⟩
  let k : AV × List Sl → R (AV × List Sl) := fun x => match x.1 with
    | .d fr (.dict ((.none, .str c) :: kvs)) => (R.req (xs.contains c)).bind fun _ => (R.ofO (fldA n kvs)).bind fun d => .val (.d fr d, x.2)
    | _ => .bad
  refine attr_of hb (thn ((ha Γ).run pins s σ H (fun v H1 => ∃ G1 x, Sta X.K G1 H1 σ x.2 ∧ AVok X.K G1 H1 σ v x.1 ∧ Pk X W G1 H1 σ (k x) Q) I ⟨G, S, (Pst.bind (k := k) q).imp fun x G1 H1 e1 p1 v S1 hv => ⟨G1, x, S1, hv, p1⟩⟩) fun u s1 hh => ?_)
  · obtain ⟨v, H1, I1, rv, G1, x, S1, hv, p1⟩ := hh
    unfold Pk at p1
    dsimp only [k] at p1
    split at p1
    · rename_i fr c kvs hx
      rw [hx] at hv
      obtain ⟨hc, p1⟩ := Pst.req p1
      obtain ⟨d, hd, p9⟩ := Pst.ofO p1
      clear p1
      have hc : c ∈ xs := by simpa using hc
      obtain ⟨a, od, rfl, g, h⟩ := dn_xc hv
      obtain rfl : u = Value.ref a := rv
      rcases h with ⟨_, hk⟩ | ⟨dd, fl, flds, rfl, g2, rfl, en, da⟩
      · rw [hk] at hd
        cases hd
      · obtain ⟨w, hw, dw⟩ := fldA_ok en da hd
        have T := F.xf c hc
        obtain ⟨⟨oe, vs, hget, z, hq, _⟩, _⟩ := (show ObjOk X.prog X.w H1 s1.heap a (XvO X.K c (some dd) a) from I1.hok a _ (S1.w.rgl fr _ _ g))
        obtain ⟨mA, hns, hr⟩ := (show ObjOk X.prog X.w H1 s1.heap dd (.xd fl) from I1.hok dd _ (S1.w.rgl fr _ _ g2))
        obtain ⟨o2, ho, hl⟩ := lookIn_ns hns
        obtain ⟨u2, hu, ru⟩ := RelO.some_of (v := w) (o := mA n) (by rw [← hw]; exact hr n)
        have J : PySem.W.InstAt s1.heap a oe (He.ga X.K c) (some o2) := ⟨hget, z.1, by unfold PySem.W.notCls; rw [hq] <;> rfl, by rw [z.2]; exact ho⟩
        exact HandSPX.exc_get I1.kIn J T.ga T.gt T.sb (PySem.W.findObj_own T.hd (F.fld c hc n hn) rfl (by rw [hl, hu])) (handed_of ru) ⟨w, H1, I1.tok _, ru, p9 G1 H1 (Ext.rf S1.w) w S1 dw⟩
    · exact p1.elim
end
end PD
set_option Elab.async false
set_option linter.all false
set_option maxRecDepth 100000
set_option maxHeartbeats 4000000
set_option autoImplicit false
namespace PD
open PySem PySem.Spec L2
open PyProof.Rows (AllBare)
def bTry (xs : List Str) (i : Nat) (D : Str) (b s : DS) : DS := fun Γ => match b Γ with
  | .exc x => if xs.contains x.cls then (if exIs x.cls D then (match s (x.st.set i (.dat true (xcD x.cls x.flds))) with
      | .val z => .val (z.1, z.2.set i .un)
      | _ => .bad) else .exc x) else .bad
  | r => r
section
variable {X : Cx} {W : WX} {sc : Scope} {N : List Str} {xs ds hs fs : List Str} {b s : DS} {body suite : List Stmt} {b0 : Stmt} {np pos pos2 : Pos}
theorem dn_xo {K : PySem.W.Frag} {G : Rg} {H : Hp} {a : Addr} {c : Str} {d : Option Addr} {flds : List (Str × PyData)} (g : G a (XvO K c d a)) (h : XdOk K G H d flds) : Dn K G H (.ref a) (xcD c flds) := by
  rcases h with ⟨dd, fl, rfl, g2, e1, e2⟩ | ⟨rfl, rfl⟩
  · exact .exc g g2 e1 e2
  · exact .exc0 g
theorem XdOk.mono {K : PySem.W.Frag} {G G' : Rg} {H H' : Hp} {d : Option Addr} {flds : List (Str × PyData)} (h : XdOk K G H d flds) (g : RgLe G G') (t : TupLe H H') : XdOk K G' H' d flds := by
  rcases h with ⟨dd, fl, rfl, g2, e1, e2⟩ | ⟨rfl, rfl⟩
  · exact .inl ⟨dd, fl, rfl, g _ _ g2, e1, e2.mono g t⟩
  · exact .inr ⟨rfl, rfl⟩
theorem c1_try (C : Cf X W sc N) (F : XAll X.K X.mg xs ds hs fs) (i : Nat) {x n : Str} (hst : X.stack = X.env :: X.outer) (hfr : X.env.frame = some X.env.locals) (hi : N[i]? = some n) (hln : lclB sc n = true) (hD : x ∈ hs) (hg : glB sc x = true)
    (hb : ∀ (pn : List (Addr × Obj)) (xe : Value → Shared → Prop) (W' : WX), Cf (X.tr pn xe) W' sc N → CS (X.tr pn xe) W' body b) (hsu : ∀ (a : Addr) (pn : List (Addr × Obj)), Cf0 (X.suite a pn) WF sc N → CS (X.suite a pn) WF (b0 :: suite) s)
    (hdb : (x == ("__debug__" : Str)) = false := by decide +kernel) :
    C1 X W (.Try body [.ExceptHandler (some (.Name x np)) (some n) (b0 :: suite) pos2] [] [] pos) (bTry xs i x b s) := fun Γ => by
  have hk : X.env.kindOf n = some .local := by
    show X.env.scope.names.lookup n = some .local
    rw [C.hsc]
    unfold lclB at hln
    split at hln
    · assumption
    · cases hln
  have cf1 : ∀ (pn : List (Addr × Obj)) (xe : Value → Shared → Prop) (W' : WX), L2N.Takes (X.tr pn xe) W' → PassesOwn (model X.prog X.w) X.A X.env xe → Cf (X.tr pn xe) W' sc N :=
    fun pn xe W' tk ps => ⟨⟨C.hsc, C.hN, C.nd, tk, C.hu, ps, C.hu2⟩, C.calm⟩
  have cf0 : ∀ (a : Addr) (pn : List (Addr × Obj)), Cf0 (X.suite a pn) WF sc N := fun a pn => ⟨C.hsc, C.hN, C.nd, takes0N, C.hu, PassesOwn.never, C.hu2⟩
  refine ps_imp (ps_try_v (tb := fun W' => rdB X W' Γ (b Γ)) (ts := fun a D σ H => ∃ Γs, rdB X WF Γs (s Γs) D σ H) (c := .ref (He.ga X.K x)) hst hfr (by rw [C.hN]; exact C.nd) (by rw [C.hN]; exact hi) hk ⟨C.gl hg, hdb, .inl (F.mgh x hD)⟩ C.tk
    (fun W' pn xe tk ps => hb pn xe W' (cf1 pn xe W' tk ps) Γ) (fun a pn => pss_any fun Γs => hsu a pn (cf0 a pn) Γs)) fun D σ H ⟨G, S, p⟩ => ⟨G, S, ?_⟩
  unfold bTry at p
  cases hm : b Γ with
  | bad => rw [hm] at p; exact p
  | val z => rw [hm] at p; exact p
  | exc y =>
    rw [hm] at p
    dsimp only at p
    cases hc : xs.contains y.cls with
    | false => rw [hc, if_neg (by decide)] at p; exact p.elim
    | true =>
      rw [hc, if_pos rfl] at p
      have hc : y.cls ∈ xs := by simpa using hc
      intro G1 H1 σ1 C1 d e1 S1 g1 g2
      have hC : C1 = He.ga X.K y.cls := by
        have := (F.mgc y.cls hc).symm.trans g1
        cases this
        rfl
      subst hC
      refine ⟨exIs y.cls x, F.exm x hD y.cls hc, fun ht a ha => ?_, fun hf => ?_⟩
      · rw [if_pos ht] at p
        obtain ⟨S2, e2⟩ := S1.grow (grow_new (o := XvO X.K y.cls d a) S1.w ha)
        have hx : Dn X.K (rg ⟨G1.H0, G1.P, G1.I, upd G1.N a (XvO X.K y.cls d a), G1.E⟩ true) (upd H1 a (XvO X.K y.cls d a)) (.ref a) (xcD y.cls y.flds) := dn_xo upd_same (g2.mono (e2.rgl true) e2.t)
        have S3 := S2.put i hx
        refine ⟨_, _, S3, ?_⟩
        cases hs2 : s (y.st.set i (.dat true (xcD y.cls y.flds))) with
        | bad => rw [hs2] at p; exact p.elim
        | exc z => rw [hs2] at p; exact p.elim
        | val z =>
          rw [hs2] at p
          intro G3 H3 e3
          have q := p G3 H3 ((e1.tr e2).tr e3)
          obtain ⟨w, Γ3⟩ := z
          cases w with
          | nx => exact fun σ4 S4 => q (σ4.set i none) (S4.blank i none)
          | bk => exact fun σ4 S4 => q (σ4.set i none) (S4.blank i none)
          | ct => exact fun σ4 S4 => q (σ4.set i none) (S4.blank i none)
          | rt r =>
            cases r with
            | d v => exact fun σ4 u S4 hu => q σ4 u (S4.forget i) hu
            | c v => exact fun σ4 u H2 S4 hu => q σ4 u H2 (S4.forget i) hu
      · rw [hf, if_neg (by decide)] at p
        exact p G1 H1 σ1 _ d e1 S1 g1 g2
end
def XMk (X : Cx) (c : Str) (fns : List Str) : Prop :=
  ∀ (e : Expr) (es : List Expr) (t : TA) (p pos : Pos), PA X (e :: es) t → (∀ σ H (Q Q' : List V → Hp → Prop), (∀ vs H1, Q vs H1 → Q' vs H1) → t σ H Q → t σ H Q') → glB X.env.scope c = true → starEach (e :: es) X.env = (false, eval e X.env) :: starEach es X.env → (backTo pos (starEach es X.env)).any (·.1) = false →
    L2N.PMk X (.Call (.Name c p) (e :: es) [] pos) (fun σ H Q => t σ H fun vs H1 => vs.length = fns.length ∧ ∀ d, H1 d = none → Q (.ref (He.ga X.K c)) (some d) (upd H1 d (.xd (fns.zip vs).reverse)))
def bRaise (c : Str) (fns : List Str) (k : DA) : DS := fun Γ => (k Γ).bind fun z => match allF z.1 with
  | some (ds, true) => if ds.length = fns.length then .exc ⟨c, (fns.zip ds).reverse, z.2⟩ else .bad
  | _ => .bad
theorem zip_fst2 {α β : Type} : ∀ (xs : List α) (ys : List β), ys.length = xs.length → (xs.zip ys).map (·.1) = xs
  | [], _, _ => rfl
  | _ :: _, [], h => by cases h
  | x :: xs, y :: ys, h => by
    rw [List.zip_cons_cons, List.map_cons, zip_fst2 xs ys (by simpa using h)]
theorem zip_snd2 {α β : Type} : ∀ (xs : List α) (ys : List β), ys.length = xs.length → (xs.zip ys).map (·.2) = ys
  | [], [], _ => rfl
  | [], _ :: _, h => by cases h
  | _ :: _, [], h => by cases h
  | x :: xs, y :: ys, h => by
    rw [List.zip_cons_cons, List.map_cons, zip_snd2 xs ys (by simpa using h)]
section
variable {X : Cx} {W : WX} {sc : Scope} {N : List Str} {xs ds hs fs fns : List Str} {c : Str} {e : Expr} {es : List Expr} {k : DA} {p pos pos2 : Pos}
theorem c1_raise (C : Cf X W sc N) (F : XAll X.K X.mg xs ds hs fs) (M : XMk X c fns) (hc : c ∈ xs) (hg : glB sc c = true) (ha : CA X W (e :: es) k)
    (he : starEach (e :: es) X.env = (false, eval e X.env) :: starEach es X.env := by rfl) (hpl : (backTo pos (starEach es X.env)).any (·.1) = false := by rfl) : C1 X W (.Raise (some (.Call (.Name c p) (e :: es) [] pos)) none pos2) (bRaise c fns k) := fun Γ => by
  refine ps_imp (L2N.ps_raise C.calm C.tk (M e es _ p pos (ha Γ) (fun σ H Q Q' hk ⟨G, S, q⟩ => ⟨G, S, q.imp fun r G1 H1 e1 h vs S1 av => hk vs H1 (h vs S1 av)⟩) (by rw [C.hsc]; exact hg) he hpl)) fun D σ H ⟨G, S, q⟩ => ⟨G, S, (Pst.bind q).imp fun z G1 H1 e1 p1 vs S1 av => ?_⟩
  cases hz : allF z.1 with
  | none => rw [hz] at p1; exact p1.elim
  | some r =>
    obtain ⟨dl, fr⟩ := r
    rw [hz] at p1
    cases fr with
    | false => exact p1.elim
    | true =>
      dsimp only at p1
      have dn := allF_ok hz av
      by_cases hl : dl.length = fns.length
      · rw [if_pos hl] at p1
        have hv : vs.length = fns.length := by rw [← hl]; exact dn.length
        refine ⟨hv, fun d hd => ?_⟩
        obtain ⟨S2, e2⟩ := S1.grow (grow_new (o := .xd (fns.zip vs).reverse) S1.w hd)
        refine p1 _ _ σ (He.ga X.K c) (some d) e2 S2 (F.mgc c hc) (.inl ⟨d, _, rfl, upd_same, ?_, ?_⟩)
        · rw [List.map_reverse, List.map_reverse, zip_fst2 _ _ hv, zip_fst2 _ _ hl]
        · rw [List.map_reverse, List.map_reverse, zip_snd2 _ _ hv, zip_snd2 _ _ hl]
          exact (e2.dna dn).reverse
      · rw [if_neg hl] at p1
        exact p1.elim
end
end PD
set_option Elab.async false
set_option linter.all false
set_option maxRecDepth 100000
set_option maxHeartbeats 4000000
set_option autoImplicit false
namespace PD
open PySem PySem.Spec L2
structure HuntC (K : PySem.W.Frag) (C : Addr) : Prop where
  rd : PySem.W.readsIn K C (.type "type") = true
  ga : PySem.W.specialIn K (.ref C) "__getattribute__" = some (some (.builtin "type.__getattribute__"))
  ini : PySem.W.findCls K (.ref C) (.type "type") "__init__" = some (.val (.builtin "ValueError.__init__"))
theorem huntB_ok {K : PySem.W.Frag} (h : huntB K = true) : HuntC K (He.ga K "HuntError") := by
  unfold huntB at h
  simp only [Bool.and_eq_true] at h
  obtain ⟨h1, h2, h3⟩ := h
  refine ⟨h1, of_decide_eq_true h2, ?_⟩
  split at h3
  · rename_i n e
    rw [e, of_decide_eq_true h3]
  · cases h3
theorem oexB_ok {K : PySem.W.Frag} {C : Addr} (h : oexB K C = true) : OexC K C := by
  unfold oexB at h
  rw [Bool.and_eq_true] at h
  obtain ⟨h0, h⟩ := h
  simp only [Bool.and_eq_true] at h
  obtain ⟨h1, h2, h3, h4⟩ := h
  refine ⟨?_, of_decide_eq_true h1, of_decide_eq_true h2, of_decide_eq_true h3, h4⟩
  split at h0
  · rename_i dd cd sl ho
    split at h0
    · rename_i C' bm k0 k1 k2 k3 n k5 hm hs
      simp only [Bool.and_eq_true, beq_iff_eq, Bool.not_eq_true'] at h0
      obtain ⟨rfl, rfl, hdel, hdc, ht⟩ := h0
      obtain ⟨nm, bs, mro, ns, qn, hd, sn, sub, ab, col, del⟩ := cd
      dsimp only at hm hdel hdc
      subst hm hdel hdc
      have e : sl = #[k0, k1, k2, k3, some (.builtin "ValueError.__new__"), k5] := by
        obtain ⟨l⟩ := sl
        dsimp only at hs
        rw [hs]
      subst e
      exact ⟨nm, qn, ns, bs, bm, sn, sub, ab, col, dd, k0, k1, k2, k3, k5, ho, ht⟩
    · cases h0
  · cases h0
section
variable {X : Cx} {e : Expr} {es : List Expr} {ta : TA} {p1 p2 pos : Pos}
theorem pe_hinit {CH : Addr} {pl : Sem Bool} (T : HuntC X.K CH) (hg : Gl X "HuntError") (hm : X.mg "HuntError" = some (.ref CH)) (ha : PA X (e :: es) ta)
    (hc : eval (.Call (.Attribute (.Name "HuntError" p1) "__init__" p2) (e :: es) [] pos) X.env = (do
      let ov ← eval (.Name "HuntError" p1) X.env
      standAt p2.atName
      let (f, first) ← holding [ov] (getMethod ov "__init__" pl)
      callWith pos f first (backTo pos (starEach (e :: es) X.env)) (backToKw pos (keywordEach [] X.env))) := by rfl)
    (he : starEach (e :: es) X.env = (false, eval e X.env) :: starEach es X.env := by rfl) (hpl : (backTo pos (starEach es X.env)).any (·.1) = false := by rfl) :
    PE X (.Call (.Attribute (.Name "HuntError" p1) "__init__" p2) (e :: es) [] pos) (tVeI X.K ta) := by
  refine ⟨fun pins s σ H Q I h => ?_⟩
  refine PySem.W.methodCall_KW (ld_glob I hg hm ?_ (by decide +kernel)) hc
  refine PySem.W.method_cls I.kIn T.ga (PySem.W.cls_value I.kIn T.rd T.ini (by decide +kernel) ?_)
  show wpAny _ _ (callWith pos (Value.builtin "ValueError.__init__") [] (backTo pos (starEach (e :: es) X.env)) []) _ _ _
  refine PyProof.Rows.callWith_method1 (thn (ha.run pos pins _ σ H _ (I.tok _) h) fun us s1 ⟨vs, H1, I1, r1, a, C, ws, ev, hl, T, ea, q⟩ => ?_) he hpl
  subst ev
  cases r1 with
  | @cons _ u0 _ ur ra rr =>
    obtain rfl : u0 = Value.ref a := ra
    have hn : ur.length ≤ sizeLine := by
      have e1 := Paired.length rr
      have e2 := sizeLine_eq
      omega
    exact oinit_ok T I1 ea hn fun s2 J => ⟨.non, H1, J, rfl, q⟩
end
def spI (K : PySem.W.Frag) (fns : List Str) : Sp := fun vs H Q _ => ∃ (a C : Addr) (ws : List V), vs = .ref a :: ws ∧ ws.length = fns.length ∧ OexC K C ∧ (∀ f ∈ fns, PySem.W.findIn K (.ref C) f = some none) ∧ H a = some (exo a C none) ∧
  ∀ dx, H dx = none → dx ≠ a → Q .non (upd (upd H dx (exd dx (fns.zip ws).reverse)) a (exo a C (some dx)))
section
variable {P : Program} {w : World} {K : PySem.W.Frag} {mg : Str → Option Value} {base : Heap} {qual : Str} {params : Arguments} {body : List Stmt} {scope : Scope} {fI : Addr} {fd : FuncData} {CH : Addr}
theorem spI_len {fns : List Str} {n : Nat} (hn : fns.length + 1 = n) : ∀ vs H Q E, spI K fns vs H Q E → vs.length = n := fun vs H Q E ⟨a, C, ws, e, h, _⟩ => by
  rw [e, List.length_cons, h, hn]
theorem fi1 {f msg : Str} {j : Nat} {q1 q2 q3 q4 q5 q6 q7 q8 q9 q10 : Pos} (F : FunD K "__init__" qual params body scope [] [] fI fd) (S : FnScope ["self", f] ["self", f] scope)
    (hbd : body = [.Expr (.Call (.Attribute (.Name "HuntError" q1) "__init__" q2) [.Name "self" q3, .Constant (.str msg) j q4] [] q5) q6, .Assign [.Attribute (.Name "self" q7) f q8] (.Name f q9) q10])
    (hc : ∀ env : Env, ∃ pl : Sem Bool, eval (.Call (.Attribute (.Name "HuntError" q1) "__init__" q2) [.Name "self" q3, .Constant (.str msg) j q4] [] q5) env = (do
      let ov ← eval (.Name "HuntError" q1) env
      standAt q2.atName
      let (f, first) ← holding [ov] (getMethod ov "__init__" pl)
      callWith q5 f first (backTo q5 (starEach [.Name "self" q3, .Constant (.str msg) j q4] env)) (backToKw q5 (keywordEach [] env))))
    (hgl : glB scope "HuntError" = true) (hv0 : visB scope "self" = true) (hv1 : visB scope f = true) (hmg : mg "HuntError" = some (.ref CH)) (T : HuntC K CH) (hf1 : (f == ("__debug__" : Str)) = false) (hf2 : (f == ("__classdict__" : Str)) = false) :
    FnOk P w K mg base (L2N.CX P w) 1 fI fd ["self", f] (spI K [f]) := by
  refine F.ok S (spI_len rfl) fun cdv A outer s H vs Q E hr ⟨a, C, ws, e, hl, TC, hno, ea, hq⟩ => ?_
  subst e
  obtain ⟨v, rfl⟩ : ∃ v, ws = [v] := by
    cases ws with
    | nil => cases hl
    | cons v r =>
      cases r with
      | nil => exact ⟨v, rfl⟩
      | cons _ _ => cases hl
  subst hbd
  obtain ⟨pl, hc⟩ := hc (PyProof.Rows.envOfC qual scope s.heap.objs.size fI cdv)
  have g : Gl (cxOf (L2N.CX P w) P w K mg base ["self", f] qual scope fI cdv A outer s H E) "HuntError" := gl_of hgl
  refine ⟨_, pss_cons (ps_expr (pe_hinit (CH := CH) T g hmg (pa_cons (pe_var (i := 0) rfl (vis_of hv0)) (pa_cons pe_str pa_nil)) (pl := pl) hc)) (pss_cons (ps_ost (pe_var (i := 0) rfl (vis_of hv0)) (pe_var (i := 1) rfl (vis_of hv1) hf1 hf2)) pss_nil), ?_⟩
  refine ⟨.ref a, rfl, a, C, [.str msg], rfl, by simp, TC, ea, ?_⟩
  refine ⟨v, rfl, .ref a, rfl, a, C, rfl, TC, hno f (by simp), .inl ⟨ea, fun dx n ne => hq dx n ne⟩⟩
end
section
variable {X : Cx} {x : Str} {e : Expr} {es : List Expr} {ta : TA} {p pos : Pos} {CX : CXT} {C fI : Addr} {k : Nat} {fd : FuncData} {ps : List Str} {sp : L2.Sp} {ds : List Value} {dvs : List V}
theorem pmk_oexN (T : OexC X.K C)
    (iC : PySem.W.findIn X.K (.ref C) "__init__" = some (some (.ref fI)))
    (tI : PySem.W.typeIn X.K (.ref fI) = some (.type "function"))
    (Fi : FnOk X.prog X.w X.K X.mg X.base CX k fI fd ps sp)
    (hr : Room (k + 1) X.A) (hb : Binds X.K fd ps ds) (hd : Vals dvs ds)
    (hx : Passes CX X (fun _ _ _ => False)) (hg : Gl X x) (hm : X.mg x = some (.ref C)) (ha : PA X (e :: es) ta)
    (hdb : (x == ("__debug__" : Str)) = false := by decide)
    (he : starEach (e :: es) X.env = (false, eval e X.env) :: starEach es X.env := by rfl)
    (hpl : (backTo pos (starEach es X.env)).any (·.1) = false := by rfl) : L2N.PMk X (.Call (.Name x p) (e :: es) [] pos) (tMkO C sp dvs ta) := by
  intro pins s0 σ H Q I h
  obtain ⟨nm, q, N, bs, bm, sn, sub, ab, col, dd, c0, c1, c2, c3, c5, hC, hbm⟩ := T.cls
  refine wpAny_Call_Name_kw (ld_glob I hg hm ?_ hdb)
  refine PySem.W.callWith_K (h₀ := X.base) I.ok.mod.kin T.kC ?_ he hpl
  refine thn (ha.run pos pins s0 σ H _ I h) fun us t1 ⟨vs, H1, J1, r1, hz, q1⟩ => ⟨J1.kIn, ?_⟩
  show wpAny _ _ (call (.ref C) us) _ _ _
  obtain ⟨g0, gs, dr, tk, eo⟩ := t1
  obtain ⟨n0, hn0⟩ : ∃ n0, n0 = g0.objs.size + 1 := ⟨_, rfl⟩
  obtain ⟨g1, hg1⟩ : ∃ g1, g1 = (g0.push (PySem.W.kdv_tup us)).push (PySem.HandSPX.excO C g0.objs.size) := ⟨_, rfl⟩
  have low : g0.objs.size ≤ n0 := by omega
  have free : H1 n0 = none := J1.hok.fresh low
  have wish := q1 n0 free
  have keeps : ∀ b o, g0.get? b = some o → g1.get? b = some o := fun b o z => by
    rw [hg1]
    exact Heap.get?_push_of_some _ (Heap.get?_push_of_some _ z)
  have there : g1.get? n0 = some (PySem.HandSPX.excO C g0.objs.size) := by
    rw [hg1, hn0]
    heap_get
  have J2 : Inv X pins σ (upd H1 n0 (exo n0 C none)) ⟨g1, gs, dr, tk, eo⟩ := J1.laid (t' := tk) (a := n0) (o := exo n0 C none) (h' := g1) keeps low (exo_ok there)
  have r2 : Vals (V.ref n0 :: (vs ++ dvs)) (Value.ref n0 :: (us ++ ds)) := .cons rfl (r1.append hd)
  have hl : (Value.ref n0 :: us ++ ds).length = ps.length := r2.length.symm.trans (Fi.len _ _ _ _ wish)
  have hus : us.length ≤ sizeLine := by
    have := Paired.length r1
    rw [sizeLine_eq]
    omega
  have body : codeAny (model X.prog X.w) (X.A.under (.builtin "type.__call__" ⟨.ref C :: us, []⟩)) (.call (.ref fI) ⟨Value.ref n0 :: us, []⟩) _ _ :=
    Fi.run _ X.stack _ _ ⟨Value.ref n0 :: us, []⟩ (Value.ref n0 :: (us ++ ds)) _ _ (fun _ _ _ => False) (hr.make C us []) (J2.env0.make C us []) (hb _ (Value.ref n0 :: us) J2.kIn hl) r2 wish
  have made := fun Y => PySem.HandSPX.refsVE_contains Y bm hbm
  subst hn0 hg1
  refine wpAny_call (PySem.HandSPX.call_own F.excBase_ValueError made (J1.kIn _ _ hC) (PySem.W.looks_findIn J1.kIn iC) (fun self => PySem.W.bind_fn J1.kIn self tI) hus (codeAny_mono body fun r t2 hq => ?_))
  cases r with
  | error er => exact hx pins σ _ _ er t2 J2 hq
  | ok fl =>
    cases fl with
    | ret u =>
      obtain ⟨v, H2, o2, b2, u2, k2, rv, ev, d, fs, ea, ed, hd1, q2⟩ := hq
      subst ev
      obtain ⟨g2, gg, d2, tt, oo⟩ := t2
      obtain ⟨tz, G, J, kG, ge, hoe, na⟩ := mk_end0 (d2 := d2) (t2 := tt) J1 low keeps u2 k2 o2 b2 ea ed hd1
      refine ⟨rv, g0.objs.size + 1, _, _, ⟨G, gg, d2, tt, oo⟩, _, .ref C, some d, rfl, J, kG, ge, hoe, ⟨rfl, rfl, fun ws hw => ?_⟩, rfl, rfl, na, rfl, b2, raises_own T.exC T.tyC, q2⟩
      cases hw
      rfl
    | next => exact hq.elim
    | brk => exact hq.elim
    | cont => exact hq.elim
end
section
variable {X : Cx} {W : WX} {sc : Scope} {N : List Str}
theorem xmk_of (C : Cf0 X W sc N) {c : Str} {fns ps : List Str} {fd : FuncData} (T : OexC X.K (He.ga X.K c)) (iC : PySem.W.findIn X.K (.ref (He.ga X.K c)) "__init__" = some (some (.ref (He.fAd X.K (c, some "__init__")))))
    (tI : PySem.W.typeIn X.K (.ref (He.fAd X.K (c, some "__init__"))) = some (.type "function")) (hno : ∀ f ∈ fns, PySem.W.findIn X.K (.ref (He.ga X.K c)) f = some none)
    (F1 : FnOk X.prog X.w X.K X.mg X.base (L2N.CX X.prog X.w) 1 (He.fAd X.K (c, some "__init__")) fd ps (spI X.K fns)) (hr : Room 2 X.A) (hb : Binds X.K fd ps []) (hm : X.mg c = some (.ref (He.ga X.K c))) (hs : fns.length ≤ 1000)
    (hdb : (c == ("__debug__" : Str)) = false := by decide +kernel) : XMk X c fns := fun e es t p pos ha mn hg he hpl pins s σ H Q I h => by
  refine pmk_oexN (ds := []) (dvs := []) T iC tI F1 hr hb .nil (L2N.passes_call C.tk fun _ _ _ _ z => z.elim) (gl_of hg) hm ha hdb he hpl pins s σ H Q I ?_
  refine mn _ _ _ _ (fun vs H1 ⟨hl, hq⟩ => ⟨by rw [hl]; exact hs, fun a na => ?_⟩) h
  rw [List.append_nil]
  refine ⟨a, He.ga X.K c, vs, rfl, hl, T, hno, upd_same, fun dx hdx ne => ⟨rfl, dx, (fns.zip vs).reverse, upd_same, (upd_ne ne).trans upd_same, ?_, ?_⟩⟩
  · rw [upd_ne ne] at hdx
    exact hdx
  · have e2 : upd (L2.del (upd (upd (upd H1 a (exo a (He.ga X.K c) none)) dx (exd dx (fns.zip vs).reverse)) a (exo a (He.ga X.K c) (some dx))) a) dx (.xd (fns.zip vs).reverse) = upd H1 dx (.xd (fns.zip vs).reverse) := by
      funext b
      by_cases h1 : b = dx
      · rw [h1, upd_same, upd_same]
      · rw [upd_ne h1, upd_ne h1]
        by_cases h2 : b = a
        · rw [h2, L2.del_same, na]
        · rw [L2.del_ne h2, upd_ne h2, upd_ne h1, upd_ne h2]
    rw [e2]
    rw [upd_ne ne] at hdx
    exact hq dx hdx
end
end PD
set_option Elab.async false
set_option linter.all false
set_option maxRecDepth 100000
set_option maxHeartbeats 4000000
set_option autoImplicit false
namespace PD
open PySem PySem.Spec PyProof.Rows L2
open L2H (RoomH)
structure FnQ (P : Program) (w : World) (K : PySem.W.Frag) (mg : Str → Option Value) (base : Heap) (k : Nat) (f : Addr) (fd : FuncData) (ps : List Str) (sp : Sp) : Prop where
  len : ∀ vs H Q E, sp vs H Q E → vs.length = ps.length
  run : ∀ (A : Around) (outer : List Env) (s : Shared) (H : Hp) (args : Args) (us : List Value) (vs : List V) (Q : VK) (E : XK), RoomH k A → Env0 P w K mg base A outer s H → BindsTo s fd args (ps.zip us) → Vals vs us → sp vs H Q E →
    codeAny (model P w) A (.call (.ref f) args) (CR (L2N.CX P w) outer P w H s Q E) s
abbrev cxQ (P : Program) (w : World) (K : PySem.W.Frag) (mg : Str → Option Value) (base : Heap) (N : List Str) (qual : Str) (scope : Scope) (f : Addr) (cd : Value) (A : Around) (outer : List Env) (s : Shared) (H : Hp) (E : XK) : Cx :=
  { cxOf (L2N.CX P w) P w K mg base N qual scope f cd A outer s H E with calm := false }
section
variable {P : Program} {w : World} {K : PySem.W.Frag} {mg : Str → Option Value} {base : Heap} {N ps : List Str} {qual : Str} {scope : Scope} {f : Addr} {cd : Value} {A : Around} {outer : List Env} {s s1 : Shared} {H : Hp} {E : XK} {us : List Value} {vs : List V}
theorem inv_startQ (S : FnScope N ps scope) (e0 : Env0 P w K mg base A outer s H) (hl : vs.length = ps.length) (r : Vals vs us)
    (x : InCallC s s.heap.objs.size (bindL (envOfC qual scope s.heap.objs.size f cd).kindOf (ps.zip us) fun _ => none) (cellsFrom (s.heap.objs.size + 1) scope.names []) (bindC (envOfC qual scope s.heap.objs.size f cd).kindOf (ps.zip us) fun _ => none) s1) :
    Inv (cxQ P w K mg base N qual scope f cd A outer s H E) [] (L2.start N vs) H s1 := by
  have e1 : Env0 P w K mg base { A with handled := none } outer s H := ⟨e0.frames, e0.mod, e0.bs, e0.bsz, e0.funs, e0.frf, e0.hok, e0.bare⟩
  have I := inv_start (CX := L2N.CX P w) (E := E) (A := { A with handled := none }) S rfl e1 hl r x
  obtain ⟨o1, o2, o3, o4, o5, o6, o7, o8, o9, o10, o11, o12, o13, o14, o15, o16, o17, o18⟩ := I.ok
  exact ⟨⟨o1, o2, o3, o4, o5, o6, o7, o8, (fun z => by cases (show false = true from z)), Around.frames_deeper e0.frames, o11, o12, o13, o14, o15, o16, o17, o18⟩, I.os, I.bare, I.base, I.loc, I.cell, I.free, I.freeC, I.pin, I.hok, I.len⟩
theorem fn_ofQ {k : Nat} {name : Str} {params : Arguments} {body : List Stmt} {dvs : List V} {kws : List (Str × V)} {fd : FuncData} {sp : Sp} (F : FunD K name qual params body scope dvs kws f fd) (S : FnScope N ps scope) (len : ∀ vs H Q E, sp vs H Q E → vs.length = ps.length)
    (hbody : ∀ (cdv : Value) (A : Around) (outer : List Env) (s : Shared) (H : Hp) (vs : List V) (Q : VK) (E : XK), RoomH k (A.deeper (envOfC qual scope s.heap.objs.size f cdv)) → sp vs H Q E →
      ∃ t, PSs (cxQ P w K mg base N qual scope f cdv A outer s H E) body t ∧ t { nx := fun _ H' => Q .non H', rt := Q } (L2.start N vs) H) : FnQ P w K mg base (k + 1) f fd ps sp := by
  obtain ⟨oc, od, dV, kV, doc, pm, an, cdv, ct, osl, rfl, lk, hcd, _, _⟩ := F.ex
  refine ⟨len, fun A outer s H args us vs Q E hr e0 hb r hsp => ?_⟩
  have KX : K.In s.heap := e0.mod.kin.keeps fun b o e => (e0.bs b o e).1
  have lim : s.heap.NoLimit := e0.mod.nolimit.keeps fun b o e => (e0.bs b o e).1
  have kinds : ∀ y ∈ ps.zip us, scope.names.lookup y.1 = some .local ∨ (scope.names.lookup y.1 = some .cell ∧ ((cellsFrom (s.heap.objs.size + 1) scope.names []).lookup y.1).isSome = true) := by
    rintro ⟨n, v⟩ hy
    rcases S.par n (List.of_mem_zip hy).1 with q | q
    · exact .inl q
    · exact .inr ⟨q, PySem.W.cellsFrom_some _ _ _ (.inl q)⟩
  refine codeAny_call_function hr.depth (KX _ _ lk) rfl S.co S.gen rfl (PySem.W.codeRec_of KX hcd) (hb _ _ _ _ (wpAny_newFunctionEnv_cells S.kind kinds fun env he s1 x => ?_))
  subst he
  refine ⟨lim.keeps x.toInCall.keep, codeAny_func ?_⟩
  obtain ⟨t, ht, hq⟩ := hbody cdv A outer s H vs Q E (hr.deeper _) hsp
  refine wpAny_mono (ht.run [] s1 (L2.start N vs) H _ (inv_startQ S e0 (len _ _ _ _ hsp) r x) hq) (fun fl s2 hs => ?_) fun e s2 hs => hs
  cases fl with
  | ret u =>
    obtain ⟨v, σ2, H2, J, rv, q⟩ := hs
    exact ⟨v, H2, J.os, J.bare, J.base, J.hok, rv, q⟩
  | next =>
    obtain ⟨σ2, H2, J, q⟩ := hs
    exact ⟨V.non, H2, J.os, J.bare, J.base, J.hok, rfl, q⟩
  | brk =>
    obtain ⟨_, _, _, q⟩ := hs
    exact q.elim
  | cont =>
    obtain ⟨_, _, _, q⟩ := hs
    exact q.elim
end
structure HereQ (X : Cx) (W : WX) (P : Program) (w : World) (K : PySem.W.Frag) (mg : Str → Option Value) (base : Heap) (scope : Scope) (N : List Str) (k : Nat) : Prop where
  cf : Cf0 X W scope N
  prog : X.prog = P
  w : X.w = w
  K : X.K = K
  mg : X.mg = mg
  base : X.base = base
  room : RoomH k X.A
  fn : ∀ x, X.fn x = true
section
variable {P : Program} {w : World} {K : PySem.W.Frag} {mg : Str → Option Value} {base : Heap} {N ps : List Str} {name qual : Str} {scope : Scope} {f : Addr} {k : Nat} {params : Arguments} {body : List Stmt} {dvs : List V} {kws : List (Str × V)} {fd : FuncData}
theorem fn_uQ (F : FunD K name qual params body scope dvs kws f fd) (S : FnScope N ps scope) {b : DS} (hle : ps.length ≤ N.length) (hb : ∀ X W, HereQ X W P w K mg base scope N k → CS X W body b) :
    FnQ P w K mg base (k + 1) f fd ps (spU K mg (runB N.length ps.length b)) :=
  fn_ofQ F S fn_len fun cdv A outer s H vs Q E hr hsp => by
    obtain ⟨Γ, h⟩ := fn_pre hle (X := cxQ P w K mg base N qual scope f cdv A outer s H E) rfl rfl hsp
    refine ⟨_, hb _ _ ⟨⟨rfl, rfl, S.nd, L2N.takes_of rfl rfl rfl rfl, ?_, passes_of rfl, ?_⟩, rfl, rfl, rfl, rfl, rfl, hr, fun x => rfl⟩ Γ, h⟩
    · have := hr.un
      show (A.deeper _).units + 64 < cLine
      omega
    · have := hr.un
      show (A.deeper _).units + 150 < cLine
      omega
end
def CleeQ (X : Cx) (x : Str) (dvs : List V) (sp : Sp) : Prop :=
  ∃ (k : Nat) (f : Addr) (fd : FuncData) (ps : List Str) (ds : List Value), FnQ X.prog X.w X.K X.mg X.base k f fd ps sp ∧ RoomH k X.A ∧ X.mg x = some (.ref f) ∧ PySem.W.keepIn X.K (.ref f) = true ∧ Binds X.K fd ps ds ∧ Vals dvs ds
section
variable {X : Cx} {W : WX} {sc : Scope} {N : List Str} {x : Str} {e : Expr} {es : List Expr} {p pos : Pos} {k : DA} {dvs : List V} {dds : List PyData} {m : List Ar → R (Rs × List Sl)} {t : TA}
theorem CleeQ.suite {sp : Sp} (h : CleeQ X x dvs sp) (a : Addr) (pn : List (Addr × Obj)) : CleeQ (X.suite a pn) x dvs sp := by
  obtain ⟨k, f, fd, ps, ds, h1, h2, h3⟩ := h
  exact ⟨k, f, fd, ps, ds, h1, ⟨h2.dp, h2.un⟩, h3⟩
theorem run_fnQ {pins : List (Addr × Obj)} {σ : L2.St} {H : Hp} {s : Shared} {Q : VK} {us ds : List Value} {vs : List V} {j : Nat} {f : Addr} {fd : FuncData} {ps : List Str} {sp : Sp} {E : XK} (F : FnQ X.prog X.w X.K X.mg X.base j f fd ps sp) (hr : RoomH j X.A) (hb : Binds X.K fd ps ds) (hd : Vals dvs ds)
    (hx : PassesAt (L2N.CX X.prog X.w) X σ E) (I : Inv X pins σ H s) (r : Vals vs us) (h : sp (vs ++ dvs) H Q E) : wpAny (model X.prog X.w) X.A (call (.ref f) us) (EP X pins σ Q) X.xe s := by
  have r2 : Vals (vs ++ dvs) (us ++ ds) := r.append hd
  have hl : (us ++ ds).length = ps.length := r2.length.symm.trans (F.len _ _ _ _ h)
  refine wpAny_call (codeAny_mono (F.run X.A X.stack s H ⟨us, []⟩ (us ++ ds) (vs ++ dvs) Q E hr I.env0 (hb s us I.kIn hl) r2 h) fun z s2 hq => ?_)
  cases z with
  | error e => exact hx pins H s e s2 I hq
  | ok fl =>
    cases fl with
    | ret u => exact I.after hq
    | next => exact hq.elim
    | brk => exact hq.elim
    | cont => exact hq.elim
theorem cx_callQ (C : Cf0 X W sc N) (hc : CleeQ X x dvs (spU X.K X.mg m)) (hg : glB sc x = true) (hdv : ∀ G H, DnA X.K G H dvs dds) (ha : CA X W (e :: es) k)
    (hdb : (x == ("__debug__" : Str)) = false := by decide +kernel) (he : starEach (e :: es) X.env = (false, eval e X.env) :: starEach es X.env := by rfl) (hpl : (backTo pos (starEach es X.env)).any (·.1) = false := by rfl) : CX X W (.Call (.Name x p) (e :: es) [] pos) (xCall m dds k) := fun Γ => by
  obtain ⟨k', f, fd, ps, dss, F, hr, hm, hk, hb, hd⟩ := hc
  refine ⟨fun pins s σ H Q I h => ?_⟩
  obtain ⟨G, S, q⟩ := h
  refine wpAny_Call_Name_kw (ld_glob I (C.gl hg) hm ?_ hdb)
  refine PySem.W.callWith_K (h₀ := X.base) I.ok.mod.kin hk (thn ((ha Γ).run pos pins s σ H (fun vs H1 => spU X.K X.mg m (vs ++ dvs) H1 Q (fun cls d H => W cls d σ H)) I ⟨G, S, (Pst.bind q).imp fun z G1 H1 e1 p1 vs S1 av => ?_⟩) fun us s1 ⟨vs, H1, I1, r, q⟩ => ⟨I1.kIn, ?_⟩) he hpl
  · obtain ⟨ds, hds, p1⟩ := Pst.ofO p1
    refine callD_core hdv S1 av hds ((Pst.bind p1).imp fun r G2 H2 e2 p2 S2 => ?_)
    have p2 := p2 G2 H2 (Ext.rf S2.w)
    cases hz : r.1 with
    | d w =>
      rw [hz] at p2
      exact fun v hv => p2 v S2 hv
    | c w =>
      rw [hz] at p2
      exact fun v H3 hn => p2 v H3 S2 hn
  · exact run_fnQ F hr hb hd (L2N.passAt C.tk σ) I1 r q
end
def GvQ (P : Program) (w : World) (K : PySem.W.Frag) (mg : Str → Option Value) (base : Heap) (k : Nat) (x : Str) (dvs : List V) (sp : Sp) : Prop :=
  ∃ (f : Addr) (fd : FuncData) (ps : List Str) (ds : List Value), FnQ P w K mg base k f fd ps sp ∧ mg x = some (.ref f) ∧ PySem.W.keepIn K (.ref f) = true ∧ Binds K fd ps ds ∧ Vals dvs ds
theorem GvQ.u {P : Program} {w : World} {K : PySem.W.Frag} {mg : Str → Option Value} {base : Heap} {k k' : Nat} {x : Str} {dvs : List V} {m : List Ar → R (Rs × List Sl)} {scope : Scope} {X : Cx} {W : WX} {N : List Str} (g : GvQ P w K mg base k x dvs (spU K mg m)) (h : Here X W P w K mg base scope N k') (hk : k ≤ k') : CleeQ X x dvs (spU X.K X.mg m) := by
  obtain ⟨f, fd, ps, ds, h1, h2, h3, h4, h5⟩ := g
  have e1 := h.prog
  have e2 := h.w
  have e3 := h.K
  have e4 := h.mg
  have e5 := h.base
  subst e1 e2 e3 e4 e5
  exact ⟨k, f, fd, ps, ds, h1, (L2H.roomH_of h.room).mono hk, h2, h3, h4, h5⟩
end PD
set_option Elab.async false
set_option linter.all false
set_option maxRecDepth 100000
set_option maxHeartbeats 4000000
set_option autoImplicit false
namespace PD
open PySem PySem.Spec L2
theorem Clee.tr {X : Cx} {x : Str} {dvs : List V} {sp : Sp} (h : Clee X x dvs sp) {pn : List (Addr × Obj)} {xe : Value → Shared → Prop} : Clee (X.tr pn xe) x dvs sp := h
theorem CleeK.tr {X : Cx} {x : Str} {n : Nat} {ks : List Str} {dvs : List V} {sp : Sp} (h : CleeK X x n ks dvs sp) {pn : List (Addr × Obj)} {xe : Value → Shared → Prop} : CleeK (X.tr pn xe) x n ks dvs sp := h
theorem all_nil {p : Str → Prop} : ∀ c ∈ ([] : List Str), p c := fun c h => by cases h
theorem all_cons {p : Str → Prop} {a : Str} {as : List Str} (h : p a) (r : ∀ c ∈ as, p c) : ∀ c ∈ a :: as, p c := fun c hc => by
  rcases List.mem_cons.mp hc with z | z
  · rw [z]; exact h
  · exact r c z
structure IniC (K : PySem.W.Frag) (c : Str) : Prop where
  T : OexC K (He.ga K c)
  iC : PySem.W.findIn K (.ref (He.ga K c)) "__init__" = some (some (.ref (He.fAd K (c, some "__init__"))))
  tI : PySem.W.typeIn K (.ref (He.fAd K (c, some "__init__"))) = some (.type "function")
theorem iniB_ok {K : PySem.W.Frag} {c : Str} (h : iniB K c = true) : IniC K c := by
  unfold iniB at h
  simp only [Bool.and_eq_true] at h
  exact ⟨oexB_ok h.1, of_decide_eq_true h.2.1, of_decide_eq_true h.2.2⟩
def Sh1 (f : Str) (body : List Stmt) : Prop := ∃ (msg : Str) (j : Nat) (q1 q2 q3 q4 q5 q6 q7 q8 q9 q10 : Pos), body = [.Expr (.Call (.Attribute (.Name "HuntError" q1) "__init__" q2) [.Name "self" q3, .Constant (.str msg) j q4] [] q5) q6, .Assign [.Attribute (.Name "self" q7) f q8] (.Name f q9) q10] ∧
  ∀ env : Env, ∃ pl : Sem Bool, eval (.Call (.Attribute (.Name "HuntError" q1) "__init__" q2) [.Name "self" q3, .Constant (.str msg) j q4] [] q5) env = (do
    let ov ← eval (.Name "HuntError" q1) env
    standAt q2.atName
    let (f, first) ← holding [ov] (getMethod ov "__init__" pl)
    callWith q5 f first (backTo q5 (starEach [.Name "self" q3, .Constant (.str msg) j q4] env)) (backToKw q5 (keywordEach [] env)))
section
variable {P : Program} {w : World} {K : PySem.W.Frag} {mg : Str → Option Value} {base : Heap} {X : Cx} {W : WX} {scope : Scope} {N : List Str} {k : Nat} {xs ds hs fs : List Str} {c f f2 qual : Str} {params : Arguments} {body : List Stmt} {sc : Scope} {fd : FuncData}
theorem xm1 (h : Here X W P w K mg base scope N k) (hk : 2 ≤ k) (F : FunD K "__init__" qual params body sc [] [] (He.fAd K (c, some "__init__")) fd) (B : Binds K fd ["self", f] []) (I : IniC K c) (A : XAll K mg xs ds hs fs) (T : HuntC K (He.ga K "HuntError")) (hm : mg "HuntError" = some (.ref (He.ga K "HuntError")))
    (hc : c ∈ xs) (hf : f ∈ fs) (S : FnScope ["self", f] ["self", f] sc) (hbd : Sh1 f body) (g : glB sc "HuntError" = true) (v0 : visB sc "self" = true) (v1 : visB sc f = true) (hf1 : (f == ("__debug__" : Str)) = false := by decide +kernel) (hf2 : (f == ("__classdict__" : Str)) = false := by decide +kernel)
    (hdb : (c == ("__debug__" : Str)) = false := by decide +kernel) : XMk X c [f] := by
  obtain ⟨msg, j, q1, q2, q3, q4, q5, q6, q7, q8, q9, q10, hb, he⟩ := hbd
  have e1 := h.prog
  have e2 := h.w
  have e3 := h.K
  have e4 := h.mg
  have e5 := h.base
  subst e1 e2 e3 e4 e5
  have hno : ∀ n ∈ [f], PySem.W.findIn X.K (.ref (He.ga X.K c)) n = some none := fun n hn => by
    have : n = f := by simpa using hn
    rw [this]
    exact A.fld c hc f hf
  exact xmk_of h.cf.toCf0 I.T I.iC I.tI hno (fi1 F S hb he g v0 v1 hm T hf1 hf2) (h.room.mono hk) B (A.mgc c hc) (by simp) hdb
end
theorem obsXG_eq {n : Nat} {fx : List (PySem.W.Frag → Bool)} {fa : List He.Fa} {fn : List He.DefD} {g : Addr → Option Obj} {s : Shared} (h : ∀ a, g a = s.heap.get? a) : obsXG n fx fa fn g = (hookX n fx fa fn).obs s := by
  have e : g = s.heap.get? := funext h
  rw [e] <;> rfl
theorem SaysX.d {fx : List (PySem.W.Frag → Bool)} {fa : List He.Fa} {fn : List He.DefD} {K : PySem.W.Frag} (c : SaysX fx fa fn K) : He.SaysD fa fn K := by
  have c : ((fx.all fun f => f K) && (He.obsD fa fn K).1, (He.obsD fa fn K).2) = He.valD fn := c
  have e1 : ((fx.all fun f => f K) && (He.obsD fa fn K).1) = true := congrArg (fun z : He.AlD => z.1) c
  have e2 : (He.obsD fa fn K).2 = (He.valD fn).2 := (Prod.mk.inj (c.trans (show He.valD fn = ((He.valD fn).1, (He.valD fn).2) from rfl))).2
  exact Prod.ext (Bool.and_eq_true_iff.mp e1).2 e2
theorem SaysX.x {fx : List (PySem.W.Frag → Bool)} {fa : List He.Fa} {fn : List He.DefD} {K : PySem.W.Frag} (c : SaysX fx fa fn K) (i : Nat) {f : PySem.W.Frag → Bool} (h : fx[i]? = some f := by rfl) : f K = true := by
  have c : ((fx.all fun f => f K) && (He.obsD fa fn K).1, (He.obsD fa fn K).2) = He.valD fn := c
  have e1 : ((fx.all fun f => f K) && (He.obsD fa fn K).1) = true := congrArg (fun z : He.AlD => z.1) c
  exact List.all_eq_true.mp (Bool.and_eq_true_iff.mp e1).1 f (List.mem_of_getElem? h)
end PD
set_option Elab.async false
set_option linter.all false
set_option maxRecDepth 100000
set_option maxHeartbeats 4000000
set_option autoImplicit false
namespace PD
open PySem PySem.Spec L2
open PyProof.Rows hiding St
def rCnt (K : PySem.W.Frag) : V → List V → Hp → VK → Prop := fun x xs H Q => ∃ (p : Addr) (vs : List V) (y : V), x = .ref p ∧ xs = [y] ∧ SqL K H p vs ∧ flatV y = true ∧ vs.all flatV = true ∧ Q (.int (vs.countP (fun z => eqV z y) : Nat)) H
theorem countP_eqU {x : V} : ∀ {xs : List V} {us : List Value}, Vals xs us → xs.all flatV = true → us.countP (eqU x) = xs.countP fun y => eqV y x
  | _, _, .nil, _ => rfl
  | y :: xs, u :: us, .cons r t, f => by
    rw [List.all_cons, Bool.and_eq_true] at f
    rw [List.countP_cons, List.countP_cons, eqU_of r f.1, countP_eqU t f.2]
theorem mt_cnt {X : Cx} : MtR X "list.count" (rCnt X.K) := by
  rintro pins s σ H x xs v us Q I rx rxs ⟨p, ws, y, rfl, rfl, hs, fy, fw, q⟩
  cases rx
  obtain ⟨u, rfl, ru⟩ := rxs.one
  obtain ⟨its, rv, ⟨⟨cls, dd, data, sl⟩, n, ho, hc, hdn, hd⟩, hlen⟩ := I.list hs
  dsimp only at hc hd
  subst hc hd
  refine call_meets PySem.F.slot_list_count ⟨_, ho, rfl⟩ PySem.F.entry_list_count (PySem.F.args_list_count_2 _ _)
    (SeqAt.list_countAt p its.toArray n dd sl u (eqU y)) ⟨ho, fun w hw => mem_eqAt ru fy rv fw w (by simpa using hw), ?_⟩
  have ec : its.toArray.toList.countP (eqU y) = ws.countP fun z => eqV z y := countP_eqU rv fw
  refine ⟨.int (ws.countP (fun z => eqV z y) : Nat), H, I.tok _, ⟨s.toks, ?_⟩, q⟩
  show Value.int ((its.toArray.toList.countP (eqU y) : Nat) : Int) s.toks = Value.int ((ws.countP (fun z => eqV z y) : Nat) : Int) s.toks
  rw [ec]
theorem cntV_ok {K : PySem.W.Frag} {G : Rg} {H : Hp} {v : V} {p : PyData} (h : Dn K G H v p) (hf : flD p = true) : ∀ {vs : List V} {ds : List PyData}, DnA K G H vs ds → ds.all flD = true → vs.all flatV = true ∧ vs.countP (fun z => eqV z v) = ds.countP fun z => PyData.eqv z p
  | _, _, .nil, _ => ⟨rfl, rfl⟩
  | _, _, .cons q r, hq => by
    simp only [List.all_cons, Bool.and_eq_true] at hq
    obtain ⟨h1, h2⟩ := cntV_ok h hf r hq.2
    refine ⟨by simp [h1, flD_ok q hq.1], ?_⟩
    rw [List.countP_cons, List.countP_cons, h2, eqV_ok q h hq.1 hf]
def isLst : PyData → Bool
  | .list _ => true
  | _ => false
def dCnt (f g : DF) : DF := fun Γ => (f Γ).bind fun x => (R.req (((rdD x.2 x.1).map isLst).getD false)).bind fun _ => (g x.2).bind fun y => match rdD y.2 x.1, rdD y.2 y.1 with
  | some (.list ds), some d => gq (flD d && ds.all flD) (.d true (.int (ds.countP (fun z => PyData.eqv z d) : Nat)), y.2)
  | _, _ => .bad
section
variable {X : Cx} {W : WX} {sc : Scope} {N : List Str} {a b e o : Expr} {p p2 pos apos cpos : Pos} {f g h : DF}
theorem ce_cnt (ha : CE X W o f) (hb : CE X W e g) (hbase : attributeBase o "count" X.env (eval o X.env) = eval o X.env := by rfl)
    (hfew : ((backTo cpos (starEach [e] X.env)).all (fun x => !x.1) && (backToKw cpos (keywordEach [] X.env)).all (fun x => x.1.isSome)
      && decide ([e].length + ([] : List Keyword).length + (if ([] : List Keyword).isEmpty then 0 else 1) < 30)) = true := by rfl)
    (hline : (apos.endLine == cpos.line) = true := by rfl) (hs : starEach [e] X.env = (false, eval e X.env) :: starEach [] X.env := by rfl) :
    CE X W (.Call (.Attribute o "count" apos) [e] [] cpos) (dCnt f g) := fun Γ => by
  refine pe_imp (pe_bm PySem.F.plainAttrs_list PySem.F.slot_list_count PySem.F.type_list_count mt_cnt (ha Γ) (pa_any fun x : AV × List Sl => pa_cons (hb x.2) pa_nil hs) hbase hfew hline hs (by rfl)) fun σ H Q ⟨G, S, q⟩ => ⟨G, S, (Pst.bind q).imp fun x G1 H1 e1 p1 v S1 hv => ?_⟩
  have key : ∀ {G2 H2} (y : AV × List Sl), Ext G1 H1 G2 H2 → ∀ u, Sta X.K G2 H2 σ y.2 → AVok X.K G2 H2 σ u y.1 → Pst X W G2 H2 σ (match rdD y.2 x.1, rdD y.2 y.1 with
      | some (.list ds), some d => gq (flD d && ds.all flD) ((AV.d true (.int (ds.countP (fun z => PyData.eqv z d) : Nat))), y.2)
      | _, _ => .bad) (fun z G' H' => ∀ w, Sta X.K G' H' σ z.2 → AVok X.K G' H' σ w z.1 → Q w H') → rCnt X.K v [u] H2 Q := by
    intro G2 H2 y e2 u S2 hu p2
    split at p2
    · rename_i ds d h1 h2
      obtain ⟨hc, p2⟩ := Pst.gq S2.w p2
      rw [Bool.and_eq_true] at hc
      obtain ⟨l, ws, rfl, hl, hd⟩ := dn_list ((rdD_ok h1).ok S2 (hv.ext e2))
      have hdu := (rdD_ok h2).ok S2 hu
      obtain ⟨c1, c2⟩ := cntV_ok hdu hc.1 hd hc.2
      exact ⟨l, ws, u, rfl, rfl, hl.sq, flD_ok hdu hc.1, c1, p2 _ S2 (by rw [c2]; exact .int _)⟩
    · exact p2.elim
  obtain ⟨hl, p1⟩ := Pst.req p1
  have ht : ∃ ds, rdD x.2 x.1 = some (.list ds) := by
    cases hx : rdD x.2 x.1 with
    | none => rw [hx] at hl; cases hl
    | some d => cases d <;> first | exact ⟨_, rfl⟩ | (rw [hx] at hl; cases hl)
  obtain ⟨ds0, hx⟩ := ht
  obtain ⟨l, ws, rfl, hl0, hd0⟩ := dn_list ((rdD_ok hx).ok S1 hv)
  refine ⟨.inl ⟨rfl, ws, hl0.sq⟩, x, G1, S1, (Pst.bind p1).imp fun y G2 H2 e2 p2 u S2 hu => ?_⟩
  exact key y e2 u S2 hu p2
end
end PD
set_option Elab.async false
set_option linter.all false
set_option maxRecDepth 100000
set_option maxHeartbeats 4000000
set_option autoImplicit false
namespace PD
open PySem PySem.Spec L2
open PyProof.Rows hiding St
def GT (K : PySem.W.Frag) (mg : Str → Option Value) (x : Str) (vs : List V) (ds : List PyData) : Prop := mg x = some (.ref (He.ga K x)) ∧ (∀ H, SqT K H (He.ga K x) vs) ∧ ∀ G H, DnA K G H vs ds
def dInG (neg : Bool) (ds : List PyData) (f : DF) : DF := fun Γ => (f Γ).bind fun x => match x.1 with
  | .d _ d => gq (flD d && ds.all flD) (.d true (.bool (if neg then !(ds.any fun z => PyData.eqv z d) else ds.any fun z => PyData.eqv z d)), x.2)
  | _ => .bad
section
variable {X : Cx} {W : WX} {sc : Scope} {N : List Str} {e : Expr} {p pos : Pos} {f : DF} {x : Str} {vs : List V} {ds : List PyData}
theorem ce_inGx (C : Cf0 X W sc N) (neg : Bool) {op : CmpOp} (ho : OpR X (compareOp op) (rIn X.K neg)) (T : GT X.K X.mg x vs ds) (hg : glB sc x = true) (ha : CE X W e f) (hm : behindInMarks op (.Name x p) = false)
    (hdb : (x == ("__debug__" : Str)) = false) : CE X W (.Compare e [op] [.Name x p] pos) (dInG neg ds f) := fun Γ => by
  have hT : PE X (.Name x p) (tC (.ref (He.ga X.K x))) := pe_glob (C.gl hg) T.1 rfl hdb
  refine pe_imp (pe_cmpR ho (ha Γ) hT hm) fun σ H Q ⟨G, S, q⟩ => ⟨G, S, (Pst.bind q).imp fun z G1 H1 e1 p1 v S1 hv => ?_⟩
  split at p1
  · rename_i fr d hz
    rw [hz] at hv
    have hv : Dn X.K (rg G1 fr) H1 v d := hv
    obtain ⟨hc, p1⟩ := Pst.gq S1.w p1
    rw [Bool.and_eq_true] at hc
    obtain ⟨c1, c2⟩ := inV_ok hv hc.1 (T.2.2 (rg G1 fr) H1) hc.2
    refine ⟨_, vs, rfl, .inr (T.2.1 H1), flD_ok hv hc.1, c1, ?_⟩
    rw [c2]
    exact p1 _ S1 (.bl _)
  · exact p1.elim
theorem ce_notinG (C : Cf0 X W sc N) (T : GT X.K X.mg x vs ds) (hg : glB sc x = true) (ha : CE X W e f) (hm : behindInMarks .NotIn (.Name x p) = false := by rfl) (hdb : (x == ("__debug__" : Str)) = false := by decide +kernel) :
    CE X W (.Compare e [.NotIn] [.Name x p] pos) (dInG true ds f) := ce_inGx C true op_notIn_seq T hg ha hm hdb
end
end PD
set_option Elab.async false
set_option linter.all false
set_option maxRecDepth 100000
set_option maxHeartbeats 4000000
set_option autoImplicit false
namespace PD
open PySem PySem.Spec L2
open PyProof.Rows hiding St
def tLk (t : TE) : TE := fun σ H Q => t σ H fun v H1 => Q v H1 ∨ ∃ d u, H1 d = some u ∧ Mut (some u) ∧ ∀ od, Q v (upd H1 d (.frz od u))
theorem pe_lk {X : Cx} {e : Expr} {t : TE} (h : PE X e t) : PE X e (tLk t) := by
  refine ⟨fun pins s σ H Q I hw => ?_⟩
  refine thn (h.run pins s σ H _ I hw) fun v s1 ⟨x, H1, I1, r, q⟩ => ?_
  rcases q with q | ⟨d, u, hd, mu, q⟩
  · exact ⟨x, H1, I1, r, q⟩
  · obtain ⟨od, I2⟩ := I1.lock hd mu
    exact ⟨x, _, I2, r, q od⟩
def frzK : AV × List Sl → R (AV × List Sl)
  | (.s i, Γ) => match Γ[i]? with
    | some (.own (.dic _ kvs)) => .val (.d true (.dict kvs), Γ.set i (.dat true (.dict kvs)))
    | _ => frzA (.s i, Γ)
  | z => frzA z
def dFrzK (f : DF) : DF := fun Γ => (f Γ).bind frzK
section
variable {X : Cx} {W : WX} {sc : Scope} {N : List Str} {e tg : Expr} {apos cpos p : Pos} {f : DF}
theorem frzK_ok {G : Gh} {H : Hp} {σ : St} {x : AV} {Γ : List Sl} {v : V} {Q : VK} (S : Sta X.K G H σ Γ) (hv : AVok X.K G H σ v x) (p : Pk X W G H σ (frzK (x, Γ)) Q) : Q v H ∨ ∃ d u, H d = some u ∧ Mut (some u) ∧ ∀ od, Q v (upd H d (.frz od u)) := by
  unfold frzK at p
  split at p
  · rename_i i Γ2 hz
    cases hz
    split at p
    · rename_i t kvs hi
      obtain ⟨d, u, hd, mu, k⟩ := S.lockDic i hi
      refine .inr ⟨d, u, hd, mu, fun od => ?_⟩
      obtain ⟨G2, S2, e2⟩ := k od
      have h2 : (Γ.set i (.dat true (.dict kvs)))[i]? = some (.dat true (.dict kvs)) := set_at (List.getElem?_eq_some_iff.mp hi).1
      obtain ⟨A2, T2⟩ := id S2
      obtain ⟨_, w, g1, g2⟩ := T2.sl i _ h2
      have hv : σ[i]? = some (some v) := hv
      rw [hv] at g1
      cases g1
      exact Pk.v' p e2 S2 g2
    · exact .inl (frz_ok S hv p)
  · exact .inl (frz_ok S hv p)
theorem ce_frzK (ha : CE X W e f) : CE X W e (dFrzK f) := fun Γ =>
  pe_imp (pe_lk (ha Γ)) fun σ H Q ⟨G, S, q⟩ => ⟨G, S, (Pst.bind q).imp fun x G1 H1 e1 p1 v S1 hv => frzK_ok (x := x.1) (Γ := x.2) S1 hv p1⟩
theorem ce_appendK (C : Cf0 X W sc N) (i : Nat) {x : Str} (hN : N[i]? = some x) (hv : visB sc x = true) (ha : CE X W e f) (hs : starEach [e] X.env = (false, eval e X.env) :: starEach [] X.env := by rfl) (hd : (x == ("__debug__" : Str)) = false := by decide +kernel) (hcd : (x == ("__classdict__" : Str)) = false := by decide +kernel) (hline : (apos.endLine == cpos.line) = true := by rfl)
    (hbase : attributeBase (.Name x p) "append" X.env (eval (.Name x p) X.env) = eval (.Name x p) X.env := by rfl) : CE X W (.Call (.Attribute (.Name x p) "append" apos) [e] [] cpos) (dLm i qAppend (dAc (dFrzK f) dA0)) := by
  refine ce_lm C qAppend PySem.F.slot_list_append PySem.F.type_list_append mt_append (fun as ds G H σ p ws Q hp hd vs av y hy => ?_) i hN hv (ca_cons (ce_frzK ha) ca_nil hs) (fun ds as z h => ?_) hd hcd (by rw [hs]; rfl) hline hs rfl hbase
  · unfold qAppend at hy
    split at hy
    · rename_i z
      obtain ⟨hc, rfl⟩ := gq_val hy
      obtain ⟨v, rfl, hv⟩ := avs_one av
      have hv : Dn X.K (rg G true) H v z := hv
      exact ⟨ws ++ [v], .non, hd.append (.cons hv .nil), .non, fun q => ⟨p, ws, v, rfl, rfl, hp, by rw [hd.length]; exact of_decide_eq_true hc, q⟩⟩
    · cases hy
  · unfold qAppend at h
    split at h
    · exact gq_nox h
    · cases h
theorem kV_dn {K : PySem.W.Frag} {G : Rg} {H : Hp} (k : Key) : Dn K G H (kV k) (keyD k) := by
  cases k with
  | inl i => exact .int i
  | inr x => exact .str x
theorem itd_keys {K : PySem.W.Frag} {G : Gh} {H : Hp} {a : Addr} {o : Obj} {ks : List (Key × V)} {fr fr2 : Bool} (h : rg G fr a (.frz o (.dK ks))) : ItD K G H (Itk a o ks) (ks.map fun z => keyD z.1) fr2 := by
  have sq : ∀ G2 H2, Le G H G2 H2 → H2 a = some (.frz o (.dK ks)) := fun G2 H2 e => e.w.rgl fr _ _ (e.rgl fr _ _ h)
  refine ⟨fun i G2 H2 hi e => ⟨sq G2 H2 e, by simpa using hi⟩, fun i G2 H2 σ Γ v H3 hi e S y => ?_, fun G2 H2 e => ⟨sq G2 H2 e, by simp⟩⟩
  obtain ⟨rfl, k, w, hk, rfl⟩ := y
  exact ⟨G2, keyD k, by rw [List.getElem?_map, hk]; rfl, Ext.rf S.w, S, kV_dn k⟩
def keyA : AV → Option (List PyData × Bool)
  | .d _ (.dict kvs) => match kindD kvs with
    | some .k => some (kvs.map (·.1), true)
    | _ => none
  | _ => none
def iKeyD (f : DF) : DI := fun Γ => (f Γ).bind fun z => (R.ofO (keyA z.1)).bind fun y => .val (y, z.2)
theorem ci_keyD (h : CE X W e f) : CI X W tg e (iKeyD f) := fun Γ => by
  have h := h Γ
  unfold iKeyD
  cases hf : f Γ with
  | bad => exact pi_no fun σ H Q ⟨G, S, q⟩ => q
  | exc x =>
    rw [hf] at h
    exact pi_imp (pi_keys h) fun σ H Q ⟨G, S, q⟩ => ⟨G, S, q⟩
  | val z =>
    rw [hf] at h
    obtain ⟨y, Γ1⟩ := z
    cases hy : keyA y with
    | none =>
      refine pi_no fun σ H Q ⟨G, S, q⟩ => ?_
      have q : Pst X W G H σ ((R.ofO (keyA y)).bind fun y => R.val (y, Γ1)) (fun r G' H' => ∀ J, Sta X.K G' H' σ r.2 → ItD X.K G' H' J r.1.1 r.1.2 → Q J H') := q
      rw [hy] at q
      exact q
    | some w =>
      have key : ∀ {σ H Q}, rdIU X W Γ ((R.val (y, Γ1)).bind fun z => (R.ofO (keyA z.1)).bind fun y => .val (y, z.2)) σ H Q → ∃ G, Sta X.K G H σ Γ ∧ ∀ G' H', Ext G H G' H' → ∀ J, Sta X.K G' H' σ Γ1 → ItD X.K G' H' J w.1 w.2 → Q J H' := fun {σ H Q} ⟨G, S, q⟩ => by
        have q : Pst X W G H σ ((R.ofO (keyA y)).bind fun y => R.val (y, Γ1)) (fun r G' H' => ∀ J, Sta X.K G' H' σ r.2 → ItD X.K G' H' J r.1.1 r.1.2 → Q J H') := q
        rw [hy] at q
        exact ⟨G, S, q⟩
      unfold keyA at hy
      split at hy
      · rename_i fr kvs
        split at hy
        · rename_i hk
          cases hy
          refine pi_imp (pi_keys h) fun σ H Q z => ?_
          obtain ⟨G, S, q⟩ := key z
          refine ⟨G, S, fun G' H' e' v S' a => ?_⟩
          obtain ⟨l, o, t', vs, rfl, ⟨ob, h1⟩, h2, h3⟩ := dn_dict a hk
          have := kindD_ok hk h2
          subst this
          obtain ⟨ks, rfl, hks, _⟩ := h2
          refine ⟨l, ob, rfl, .inl ⟨ks, S'.w.rgl _ _ _ h1, q G' H' e' _ S' ?_⟩⟩
          show ItD X.K G' H' (Itk l ob ks) (kvs.map (·.1)) true
          rw [hks]
          exact itd_keys h1
        · cases hy
      · cases hy
end
end PD
set_option Elab.async false
set_option linter.all false
set_option maxRecDepth 100000
set_option maxHeartbeats 4000000
set_option autoImplicit false
namespace PD
open PySem PySem.Spec L2
open PyProof.Rows hiding St
section
variable {X : Cx} {W : WX} {sc : Scope} {N : List Str} {a b : Expr} {pos : Pos} {f g : DF}
end
end PD
set_option Elab.async false
set_option linter.all false
set_option maxRecDepth 100000
set_option maxHeartbeats 4000000
set_option autoImplicit false
namespace PD
open PySem L2
def pickP {α : Type} (pm : List Nat) (xs : List α) : List α := pm.filterMap fun i => xs[i]?
theorem Vals.pickP {xs : List V} {us : List Value} (h : Vals xs us) (pm : List Nat) : Vals (pickP pm xs) (pickP pm us) := by
  induction pm with
  | nil => exact .nil
  | cons i r ih =>
    unfold PD.pickP at ih ⊢
    rw [List.filterMap_cons, List.filterMap_cons]
    cases hx : xs[i]? with
    | none =>
      have : us[i]? = none := by
        rw [List.getElem?_eq_none_iff] at hx ⊢
        rw [← h.length]; exact hx
      rw [this]
      exact ih
    | some x =>
      obtain ⟨u, hu, r⟩ := h.get hx
      rw [hu]
      exact .cons r ih
section
variable {X : Cx} {W : WX} {sc : Scope} {N : List Str} {a b c e : Expr} {es : List Expr} {pos p : Pos} {Γ : List Sl}
theorem AVs.get {K : PySem.W.Frag} {G : Gh} {H : Hp} {σ : St} : ∀ {vs : List V} {as : List AV}, AVs K G H σ vs as → ∀ i : Nat, (vs[i]? = none ∧ as[i]? = none) ∨ ∃ v a, vs[i]? = some v ∧ as[i]? = some a ∧ AVok K G H σ v a
  | _, _, .nil, i => .inl ⟨by simp, by simp⟩
  | _, _, .cons h t, 0 => .inr ⟨_, _, by simp, by simp, h⟩
  | _, _, .cons h t, i + 1 => by simpa using AVs.get t i
theorem AVs.pickP {K : PySem.W.Frag} {G : Gh} {H : Hp} {σ : St} {vs : List V} {as : List AV} (h : AVs K G H σ vs as) (pm : List Nat) : AVs K G H σ (pickP pm vs) (pickP pm as) := by
  induction pm with
  | nil => exact .nil
  | cons i r ih =>
    unfold PD.pickP at ih ⊢
    rw [List.filterMap_cons, List.filterMap_cons]
    rcases h.get i with ⟨e1, e2⟩ | ⟨v, a, e1, e2, hv⟩
    · rw [e1, e2]; exact ih
    · rw [e1, e2]; exact .cons hv ih
def GvP (P : Program) (w : World) (K : PySem.W.Frag) (mg : Str → Option Value) (base : Heap) (k : Nat) (x : Str) (n : Nat) (ks : List Str) (pm : List Nat) (dvs : List V) (sp : Sp) : Prop :=
  ∃ (f : Addr) (fd : FuncData) (ps : List Str) (its : List Value), FnOk P w K mg base (L2N.CX P w) k f fd ps sp ∧ mg x = some (.ref f) ∧ PySem.W.keepIn K (.ref f) = true ∧ KBn K fd ps n ks (fun us ws => pickP pm (us ++ ws ++ its)) (fun vs zs => pickP pm (vs ++ zs ++ dvs))
def CleeP (X : Cx) (x : Str) (n : Nat) (ks : List Str) (pm : List Nat) (dvs : List V) (sp : Sp) : Prop :=
  ∃ (k : Nat) (f : Addr) (fd : FuncData) (ps : List Str) (its : List Value), FnOk X.prog X.w X.K X.mg X.base (L2N.CX X.prog X.w) k f fd ps sp ∧ Room k X.A ∧ X.mg x = some (.ref f) ∧ PySem.W.keepIn X.K (.ref f) = true ∧ KBn X.K fd ps n ks (fun us ws => pickP pm (us ++ ws ++ its)) (fun vs zs => pickP pm (vs ++ zs ++ dvs))
theorem GvP.clee {P : Program} {w : World} {K : PySem.W.Frag} {mg : Str → Option Value} {base : Heap} {k k' : Nat} {x : Str} {n : Nat} {ks : List Str} {pm : List Nat} {dvs : List V} {sp : Sp} {scope : Scope} (g : GvP P w K mg base k x n ks pm dvs sp) (h : Here X W P w K mg base scope N k') (hk : k ≤ k') : CleeP X x n ks pm dvs sp := by
  obtain ⟨f, fd, ps, its, g1, g2, g3, g4⟩ := g
  refine ⟨k, f, fd, ps, its, ?_, h.room.mono hk, ?_, ?_, ?_⟩
  · rw [h.prog, h.w, h.K, h.mg, h.base]; exact g1
  · rw [h.mg]; exact g2
  · rw [h.K]; exact g3
  · rw [h.K]; exact g4
theorem CleeP.blk {x : Str} {n : Nat} {ks : List Str} {pm : List Nat} {dvs : List V} {sp : Sp} (h : CleeP X x n ks pm dvs sp) {s : Shared} {H : Hp} {scope : Scope} {ce : Env} {fp : List Addr} : CleeP (X.blk s H scope ce fp) x n ks pm dvs sp := h
theorem GvP.u {P : Program} {w : World} {K : PySem.W.Frag} {mg : Str → Option Value} {base : Heap} {k k' : Nat} {x : Str} {n : Nat} {ks : List Str} {pm : List Nat} {dvs : List V} {m : List Ar → R (Rs × List Sl)} {scope : Scope} (g : GvP P w K mg base k x n ks pm dvs (spU K mg m)) (h : Here X W P w K mg base scope N k') (hk : k ≤ k') : CleeP X x n ks pm dvs (spU X.K X.mg m) := by
  have := g.clee h hk
  rw [h.K, h.mg]
  exact this
end
section
variable {X : Cx} {W : WX} {sc : Scope} {N : List Str} {a b c e : Expr} {es : List Expr} {pos p : Pos} {f : DF} {x : Str} {dvs : List V} {dds : List PyData} {m : List Ar → R (Rs × List Sl)} {kws : List Keyword} {ks : List Str} {n : Nat} {pm : List Nat} {k kk : DA}
end
end PD
set_option Elab.async false
set_option linter.all false
set_option maxRecDepth 100000
set_option maxHeartbeats 4000000
set_option autoImplicit false
namespace PD
open PySem PySem.Spec L2 Srt SrtO
open PyProof.Rows hiding St
section
variable {prog : Program} {w : World} {A : Around} {E : Value → Shared → Prop} {s : Shared} {l : Addr} {vs : List Value}
end
section
variable {X : Cx} {W : WX} {sc : Scope} {N : List Str} {a e : Expr} {p pos : Pos} {k : DA}
end
end PD
set_option Elab.async false
set_option linter.all false
set_option maxRecDepth 100000
set_option maxHeartbeats 4000000
set_option autoImplicit false
namespace PD
open PySem PySem.Spec L2
open PyProof.Rows hiding St
mutual
def eqN : PyData → PyData → Bool
  | .none, .none => true
  | .bool a, .bool b => a == b
  | .int a, .int b => decide (a = b)
  | .tuple a, .tuple b => eqNs a b
  | _, _ => false
def eqNs : List PyData → List PyData → Bool
  | [], [] => true
  | a :: as, b :: bs => eqN a b && eqNs as bs
  | _, _ => false
end
inductive NdRel (K : PySem.W.Frag) (G : Rg) (H : Hp) : List (NestedKey × Addr × V) → List (PyData × PyData) → Prop
  | nil : NdRel K G H [] []
  | cons {r : NestedKey × Addr × V} {rs : List (NestedKey × Addr × V)} {k v : PyData} {l : List (PyData × PyData)} : nkD k = some r.1 → r.1.depth ≤ 8 → Dn K G H (.ref r.2.1) k → Dn K G H r.2.2 v → NdRel K G H rs l → NdRel K G H (r :: rs) ((k, v) :: l)
theorem NdRel.mono {K : PySem.W.Frag} {G G' : Rg} {H H' : Hp} (g : RgLe G G') (t : TupLe H H') {rs : List (NestedKey × Addr × V)} {l : List (PyData × PyData)} (h : NdRel K G H rs l) : NdRel K G' H' rs l := by
  induction h with
  | nil => exact .nil
  | cons h1 h2 h3 h4 _ ih => exact .cons h1 h2 (h3.mono g t) (h4.mono g t) ih
theorem NdRel.len {K : PySem.W.Frag} {G : Rg} {H : Hp} {rs : List (NestedKey × Addr × V)} {l : List (PyData × PyData)} (n : NdRel K G H rs l) : rs.length = l.length := by
  induction n with
  | nil => rfl
  | cons _ _ _ _ _ ih => rw [List.length_cons, List.length_cons, ih]
def getN (l : List (PyData × PyData)) (k : PyData) : Option PyData := (l.find? fun z => decide (nkD z.1 = nkD k)).map (·.2)
def putN (l : List (PyData × PyData)) (k v : PyData) : List (PyData × PyData) := if l.any (fun z => decide (nkD z.1 = nkD k)) then l.map (fun z => if nkD z.1 = nkD k then (z.1, v) else z) else l ++ [(k, v)]
theorem NdRel.get {K : PySem.W.Frag} {G : Rg} {H : Hp} {k : PyData} {kk : NestedKey} (hk : nkD k = some kk) {rs : List (NestedKey × Addr × V)} {l : List (PyData × PyData)} (n : NdRel K G H rs l) : (ndGet rs kk = none ∧ getN l k = none) ∨ ∃ v d, ndGet rs kk = some v ∧ getN l k = some d ∧ Dn K G H v d := by
  induction n with
  | nil => exact .inl ⟨rfl, rfl⟩
  | @cons r rs k0 v0 l h1 h2 h3 h4 _ ih =>
    by_cases e : r.1 = kk
    · have e2 : nkD k0 = nkD k := by rw [h1, hk, e]
      exact .inr ⟨r.2.2, v0, by simp [ndGet, e], by simp [getN, e2], h4⟩
    · have e2 : ¬ nkD k0 = nkD k := by rw [h1, hk]; simpa using e
      have g1 : ndGet (r :: rs) kk = ndGet rs kk := by simp [ndGet, List.find?_cons, e]
      have g2 : getN ((k0, v0) :: l) k = getN l k := by simp [getN, List.find?_cons, e2]
      rw [g1, g2]; exact ih
theorem NdRel.any {K : PySem.W.Frag} {G : Rg} {H : Hp} {k : PyData} {kk : NestedKey} (hk : nkD k = some kk) {rs : List (NestedKey × Addr × V)} {l : List (PyData × PyData)} (n : NdRel K G H rs l) : rs.any (fun r => decide (r.1 = kk)) = l.any (fun z => decide (nkD z.1 = nkD k)) := by
  induction n with
  | nil => rfl
  | @cons r rs k0 v0 l h1 h2 h3 h4 _ ih =>
    rw [List.any_cons, List.any_cons, ih]
    congr 1
    rw [decide_eq_decide, h1, hk]
    simp
theorem NdRel.put1 {K : PySem.W.Frag} {G : Rg} {H : Hp} {k v : PyData} {kk : NestedKey} {y : V} (hk : nkD k = some kk) (hv : Dn K G H y v) {rs : List (NestedKey × Addr × V)} {l : List (PyData × PyData)} (n : NdRel K G H rs l) : NdRel K G H (rs.map (fun r => if r.1 = kk then (r.1, r.2.1, y) else r)) (l.map (fun z => if nkD z.1 = nkD k then (z.1, v) else z)) := by
  induction n with
  | nil => exact .nil
  | @cons r rs k0 v0 l h1 h2 h3 h4 _ ih =>
    rw [List.map_cons, List.map_cons]
    by_cases e : r.1 = kk
    · have e2 : nkD k0 = nkD k := by rw [h1, hk, e]
      rw [if_pos e, if_pos e2]
      exact .cons h1 h2 h3 hv ih
    · have e2 : ¬ nkD k0 = nkD k := by rw [h1, hk]; simpa using e
      rw [if_neg e, if_neg e2]
      exact .cons h1 h2 h3 h4 ih
theorem NdRel.put2 {K : PySem.W.Frag} {G : Rg} {H : Hp} {k v : PyData} {kk : NestedKey} {b : Addr} {y : V} (hk : nkD k = some kk) (hd : kk.depth ≤ 8) (hb : Dn K G H (.ref b) k) (hv : Dn K G H y v) {rs : List (NestedKey × Addr × V)} {l : List (PyData × PyData)} (n : NdRel K G H rs l) : NdRel K G H (rs ++ [(kk, b, y)]) (l ++ [(k, v)]) := by
  induction n with
  | nil => exact .cons hk hd hb hv .nil
  | cons h1 h2 h3 h4 _ ih => exact .cons h1 h2 h3 h4 ih
theorem NdRel.put {K : PySem.W.Frag} {G : Rg} {H : Hp} {k v : PyData} {kk : NestedKey} {b : Addr} {y : V} (hk : nkD k = some kk) (hd : kk.depth ≤ 8) (hb : Dn K G H (.ref b) k) (hv : Dn K G H y v) {rs : List (NestedKey × Addr × V)} {l : List (PyData × PyData)} (n : NdRel K G H rs l) : NdRel K G H (ndPut rs kk b y) (putN l k v) := by
  unfold ndPut putN
  rw [n.any hk]
  split
  · exact n.put1 hk hv
  · exact n.put2 hk hd hb hv
def nkOk (k : PyData) : Bool := match k with
  | .tuple _ => match nkD k with
    | some kk => decide (kk.depth ≤ 8)
    | none => false
  | _ => false
section
variable {X : Cx} {W : WX} {sc : Scope} {N : List Str} {a b c e : Expr} {pos : Pos} {f g : DF}
end
end PD
set_option Elab.async false
set_option linter.all false
set_option maxRecDepth 100000
set_option maxHeartbeats 4000000
set_option autoImplicit false
namespace PD
open PySem PySem.Spec L2
open PyProof.Rows hiding St
theorem NdRel.at {K : PySem.W.Frag} {G : Rg} {H : Hp} {rs : List (NestedKey × Addr × V)} {l : List (PyData × PyData)} (n : NdRel K G H rs l) : ∀ {i : Nat} {r : NestedKey × Addr × V}, rs[i]? = some r → ∃ z, l[i]? = some z ∧ Dn K G H (.ref r.2.1) z.1 := by
  induction n with
  | nil => intro i r h; simp at h
  | @cons r0 rs k v l h1 h2 h3 h4 _ ih =>
    intro i r h
    cases i with
    | zero =>
      have : r0 = r := by simpa using h
      subst this
      exact ⟨(k, v), rfl, h3⟩
    | succ j => exact ih (by simpa using h)
section
variable {X : Cx} {W : WX} {sc : Scope} {N : List Str} {e tg : Expr} {f : DF}
end
end PD
set_option Elab.async false
set_option linter.all false
set_option maxRecDepth 100000
set_option maxHeartbeats 4000000
set_option autoImplicit false
namespace PD
open PySem PySem.Spec L2 Srt SrtO
open PySem.W (alike AllAlike Sortable dataLe EachIs)
open PyProof.Rows hiding St
section
variable {X : Cx} {pins : List (Addr × Obj)} {σ : St} {H : Hp} {s : Shared}
end
section
variable {X : Cx} {W : WX} {sc : Scope} {N : List Str} {a e : Expr} {p pos : Pos} {k : DA}
end
end PD
set_option Elab.async false
set_option linter.all false
set_option maxRecDepth 100000
set_option maxHeartbeats 4000000
set_option autoImplicit false
namespace PD
open PySem PySem.Spec L2
open PyProof.Rows hiding St
section
variable {X : Cx} {W : WX} {sc : Scope} {N : List Str} {e : Expr} {f : DX}
end
end PD
set_option Elab.async false
set_option linter.all false
set_option maxRecDepth 100000
set_option maxHeartbeats 4000000
set_option autoImplicit false
namespace PD
open PySem PySem.Spec L2
open PyProof.Rows hiding St
section
variable {X : Cx} {W : WX} {sc : Scope} {N : List Str} {a b : Expr} {pos : Pos} {f g : DF}
end
end PD
set_option Elab.async false
set_option linter.all false
set_option maxRecDepth 100000
set_option maxHeartbeats 4000000
set_option autoImplicit false
namespace PD
open PySem L2
section
variable {X : Cx} {W : WX} {sc : Scope} {N : List Str} {s : Stmt} {ss : List Stmt} {b : DS}
def lentL (Γ : List Sl) (i : Nat) : Option (List PyData) := match Γ[i]? with
  | some (.lent (.lst ds)) => some ds
  | _ => none
variable {tg : Expr} {x : Str} {p p2 pos : Pos}
end
end PD
set_option Elab.async false
set_option linter.all false
set_option maxRecDepth 100000
set_option maxHeartbeats 4000000
set_option autoImplicit false
namespace PD
open PySem L2
section
variable {X : Cx} {pins : List (Addr × Obj)} {σ : St} {H : Hp} {s : Shared} {a b : Addr} {u r : Value} {d : V} {k : List Key} {A : Around} {E : Value → Shared → Prop}
end
inductive LsOk (K : PySem.W.Frag) (G : Rg) (H : Hp) : List Addr → List (List PyData) → Prop
  | nil : LsOk K G H [] []
  | cons {q : Addr} {qs : List Addr} {xs : List V} {ds : List PyData} {l : List (List PyData)} : H q = some (.lst xs) → DnA K G H xs ds → LsOk K G H qs l → LsOk K G H (q :: qs) (ds :: l)
theorem LsOk.mono {K : PySem.W.Frag} {G G' : Rg} {H H' : Hp} (g : RgLe G G') (t : TupLe H H') {qs : List Addr} {l : List (List PyData)} (h : LsOk K G H qs l) : (∀ q ∈ qs, H' q = H q) → LsOk K G' H' qs l := by
  induction h with
  | nil => exact fun _ => .nil
  | cons a b _ ih => exact fun k => .cons (by rw [k _ List.mem_cons_self]; exact a) (b.mono g t) (ih fun q hq => k q (List.mem_cons_of_mem _ hq))
theorem LsOk.get {K : PySem.W.Frag} {G : Rg} {H : Hp} {qs : List Addr} {l : List (List PyData)} (h : LsOk K G H qs l) : ∀ {i : Nat} {q : Addr}, qs[i]? = some q → ∃ xs ds, l[i]? = some ds ∧ H q = some (.lst xs) ∧ DnA K G H xs ds := by
  induction h with
  | nil => intro i q e; simp at e
  | cons a b _ ih =>
    intro i q e
    cases i with
    | zero => cases e; exact ⟨_, _, rfl, a, b⟩
    | succ i => exact ih (by simpa using e)
theorem LsOk.set {K : PySem.W.Frag} {G : Rg} {H : Hp} {qs : List Addr} {l : List (List PyData)} (h : LsOk K G H qs l) : ∀ {i : Nat} {q : Addr} {xs : List V} {ds : List PyData}, qs[i]? = some q → qs.Nodup → H q ≠ none → (∀ ys, H q ≠ some (.tup ys)) → DnA K G H xs ds → LsOk K G (upd H q (.lst xs)) qs (l.set i ds) := by
  induction h with
  | nil => intro i q xs ds e; simp at e
  | @cons q0 qs0 xs0 ds0 l0 a b c ih =>
    intro i q xs ds e nd hq ht hd
    obtain ⟨n1, n2⟩ := List.nodup_cons.mp nd
    have t : TupLe H (upd H q (.lst xs)) := fun c ys z => by
      have : c ≠ q := fun w => by rw [w] at z; exact ht ys z
      rw [upd_ne this]; exact z
    cases i with
    | zero =>
      cases e
      exact .cons upd_same (hd.mono (fun _ _ z => z) t) (c.mono (fun _ _ z => z) t fun c hc => upd_ne (fun w => n1 (by rw [← w]; exact hc)))
    | succ i =>
      have e : qs0[i]? = some q := by simpa using e
      have ne : q0 ≠ q := fun w => n1 (by rw [w]; exact List.mem_of_getElem? e)
      exact .cons (by rw [upd_ne ne]; exact a) (b.mono (fun _ _ z => z) t) (ih e n2 hq ht hd)
theorem LsOk.snoc {K : PySem.W.Frag} {G : Rg} {H : Hp} {q : Addr} {xs : List V} {ds : List PyData} {qs : List Addr} {l : List (List PyData)} (h : LsOk K G H qs l) (hq : H q = some (.lst xs)) (hd : DnA K G H xs ds) : LsOk K G H (qs ++ [q]) (l ++ [ds]) := by
  induction h with
  | nil => exact .cons hq hd .nil
  | cons a b _ ih => exact .cons a b ih
theorem LsOk.nt {K : PySem.W.Frag} {G : Rg} {H : Hp} {qs : List Addr} {l : List (List PyData)} (h : LsOk K G H qs l) : ∀ q ∈ qs, ∃ xs, H q = some (.lst xs) := by
  induction h with
  | nil => intro q hq; cases hq
  | cons a b _ ih =>
    intro q hq
    rcases List.mem_cons.mp hq with rfl | hq
    · exact ⟨_, a⟩
    · exact ih q hq
section
variable {X : Cx} {W : WX} {sc : Scope} {N : List Str} {x y : Str} {e : Expr} {pos lpos p1 p2 a1 a2 c1 c2 : Pos} {fk : DF}
end
end PD
set_option Elab.async false
set_option linter.all false
set_option maxRecDepth 100000
set_option maxHeartbeats 4000000
set_option autoImplicit false
namespace PD
open PySem PySem.Spec L2 Srt SrtO
open PySem.W (alike AllAlike Sortable dataLe EachIs dataLt)
open PyProof.Rows hiding St
section
variable {X : Cx}
end
section
variable {X : Cx} {W : WX} {sc : Scope} {N : List Str} {a b c e : Expr} {pos p : Pos} {f g : DF} {k : DA}
end
section
variable {prog : Program} {w : World} {A : Around} {E : Value → Shared → Prop} {s : Shared} {β : Type} {vs : List Value} {bs : List β} {enc : β → PyData} {R : Value → β → Prop}
open PySem.W
end
section
variable {X : Cx} {W : WX} {sc : Scope} {N : List Str} {a e e2 : Expr} {p pos : Pos} {k : DA}
end
end PD
set_option Elab.async false
set_option linter.all false
set_option maxRecDepth 100000
set_option maxHeartbeats 4000000
set_option autoImplicit false
namespace PD
open PySem PySem.Spec L2
open PySem.W (alike dataLt AlikeAll minD)
open PyProof.Rows hiding St
section
variable {X : Cx} {W : WX} {sc : Scope} {N : List Str} {a b e e2 : Expr} {p pos : Pos} {k : DA} {f g : DF}
end
section
variable {X : Cx} {W : WX} {sc : Scope} {N : List Str} {x y : Str} {p p2 pos apos cpos : Pos}
end
def mulD (l : List (PyData × List PyData)) : List (PyData × PyData) := l.map fun z => (z.1, .list z.2)
theorem LsOk.dna {K : PySem.W.Frag} {G : Rg} {H : Hp} {qs : List Addr} {l : List (List PyData)} (h : LsOk K G H qs l) {G' : Rg} (g : RgLe G G') (k : ∀ q ∈ qs, ∀ o, H q = some o → G' q o) : DnA K G' H (qs.map V.ref) (l.map PyData.list) := by
  induction h with
  | nil => exact .nil
  | cons a b _ ih => exact .cons (.lst (.inl (k _ List.mem_cons_self _ a)) (b.mono g (TupLe.rf _))) (ih fun q hq => k q (List.mem_cons_of_mem _ hq))
section
variable {X : Cx} {W : WX} {sc : Scope} {N : List Str} {ss : List Stmt} {g : DS}
end
end PD
set_option Elab.async false
set_option linter.all false
set_option maxRecDepth 100000
set_option maxHeartbeats 4000000
set_option autoImplicit false
namespace PD
open PySem L2
section
variable {X : Cx} {W : WX} {sc : Scope} {N : List Str} {e : Expr} {pos p1 : Pos} {x : Str}
end
end PD
set_option Elab.async false
set_option linter.all false
set_option maxRecDepth 100000
set_option maxHeartbeats 4000000
set_option autoImplicit false
namespace PySem
section
variable {prog : Program} {w : World} {A : Around} {E : Value → Shared → Prop} {s : Shared} {d : Addr} {es : Array DictEntry} {ep : Nat}
end
end PySem
namespace PD
open PySem L2
section
variable {X : Cx} {W : WX} {sc : Scope} {N : List Str} {e : Expr} {pos p : Pos} {k : DA}
end
end PD
set_option Elab.async false
set_option linter.all false
set_option maxRecDepth 100000
set_option maxHeartbeats 4000000
set_option autoImplicit false
namespace PD
open PySem L2
section
variable {K : PySem.W.Frag} {G : Rg} {H : Hp} {fp : List Addr}
theorem ItsOk.append : ∀ {vs ws : List V} {nd ne : List Itm}, ItsOk K G H fp vs nd → ItsOk K G H fp ws ne → ItsOk K G H fp (vs ++ ws) (nd ++ ne)
  | _, _, _, _, .nil, b => b
  | _, _, _, _, .d h a, b => .d h (ItsOk.append a b)
  | _, _, _, _, .r h a, b => .r h (ItsOk.append a b)
theorem ItsOk.length : ∀ {vs : List V} {nd : List Itm}, ItsOk K G H fp vs nd → vs.length = nd.length
  | _, _, .nil => rfl
  | _, _, .d _ a => by simp [a.length]
  | _, _, .r _ a => by simp [a.length]
end
section
variable {K : PySem.W.Frag} {G : Gh} {H : Hp} {σ : St} {Γ : List Sl} {A : Nat → List Addr} {i j k : Nat} {ns : List (List Itm)} {nd : List Itm} {vs : List V} {p : Addr} {ds : List PyData}
end
def poolA (Γ : List Sl) (j : Nat) : Option (List (List Itm)) := match Γ[j]? with
  | some (.pool ns) => some ns
  | _ => none
theorem poolA_ok {Γ : List Sl} {j : Nat} {ns : List (List Itm)} (h : poolA Γ j = some ns) : Γ[j]? = some (Sl.pool ns) := by
  unfold poolA at h
  split at h
  · cases h; assumption
  · cases h
def refA (Γ : List Sl) (i j : Nat) : Option Nat := match Γ[i]? with
  | some (.ref j' k) => if j' = j then some k else none
  | _ => none
theorem refA_ok {Γ : List Sl} {i j k : Nat} (h : refA Γ i j = some k) : Γ[i]? = some (Sl.ref j k) := by
  unfold refA at h
  split at h
  · split at h
    · rename_i e
      cases h; subst e; assumption
    · cases h
  · cases h
abbrev DR := List Sl → R (Nat × List Sl)
def nodeA (Γ : List Sl) (i j : Nat) : Option (Nat × List (List Itm) × List Itm) := (refA Γ i j).bind fun k => (poolA Γ j).bind fun ns => (ns[k]?).map fun nd => (k, ns, nd)
theorem nodeA_ok {Γ : List Sl} {i j : Nat} {z : Nat × List (List Itm) × List Itm} (h : nodeA Γ i j = some z) : Γ[i]? = some (Sl.ref j z.1) ∧ Γ[j]? = some (Sl.pool z.2.1) ∧ z.2.1[z.1]? = some z.2.2 := by
  unfold nodeA at h
  cases h1 : refA Γ i j with
  | none => rw [h1] at h; cases h
  | some k =>
    rw [h1] at h
    have h : ((poolA Γ j).bind fun ns => (ns[k]?).map fun nd => (k, ns, nd)) = some z := h
    cases h2 : poolA Γ j with
    | none => rw [h2] at h; cases h
    | some ns =>
      rw [h2] at h
      have h : ((ns[k]?).map fun nd => (k, ns, nd)) = some z := h
      cases h3 : ns[k]? with
      | none => rw [h3] at h; cases h
      | some nd => rw [h3] at h; cases h; exact ⟨refA_ok h1, poolA_ok h2, h3⟩
section
variable {X : Cx} {W : WX} {sc : Scope} {N : List Str} {e e2 : Expr} {es : List Expr} {apos cpos pos p p2 : Pos} {k : DA} {f : DF} {g : DS} {ss : List Stmt} {x y : Str} {i j : Nat} {r : DR}
theorem StaA.node {K : PySem.W.Frag} {G : Gh} {H : Hp} {σ : St} {Γ : List Sl} {A : Nat → List Addr} {z : Nat × List (List Itm) × List Itm} (S : StaA K G H σ Γ A) (h : nodeA Γ i j = some z) : ∃ a vs, (A j)[z.1]? = some a ∧ σ[i]? = some (some (V.ref a)) ∧ H a = some (.lst vs) ∧ ItsOk K (RgN G) H (A j) vs z.2.2 := by
  obtain ⟨h1, h2, h3⟩ := nodeA_ok h
  obtain ⟨a, g1, g2⟩ := S.rf i j z.1 z.2.1 h1 h2
  obtain ⟨_, _, _, q⟩ := S.sl j _ h2
  obtain ⟨b, vs, k1, k2, k3⟩ := q z.1 z.2.2 h3
  rw [g1] at k1
  cases k1
  exact ⟨a, vs, g1, g2, k2, k3⟩
def rdR (X : Cx) (W : WX) (Γ : List Sl) (j : Nat) (m : R (Nat × List Sl)) : TE := fun σ H Q => ∃ G, Sta X.K G H σ Γ ∧ Pst X W G H σ m fun r G' H' => ∀ A p ns, StaA X.K G' H' σ r.2 A → r.2[j]? = some (Sl.pool ns) → (A j)[r.1]? = some p → Q (.ref p) H'
def CR (X : Cx) (W : WX) (j : Nat) (e : Expr) (r : DR) : Prop := ∀ Γ, PE X e (rdR X W Γ j (r Γ))
end
end PD
set_option Elab.async false
set_option linter.all false
set_option maxRecDepth 100000
set_option maxHeartbeats 4000000
set_option autoImplicit false
namespace PD
open PySem L2
def isS : AV → Bool
  | .s _ => true
  | _ => false
def treL (Γ : List Sl) (i : Nat) : List AV → Option (List Tre)
  | [] => some []
  | .d fr x :: as => if fr || flat x then (treL Γ i as).map (.d x :: ·) else none
  | .s j :: as => if j = i && !as.any isS then match Γ[i]? with
      | some (.own (.lst ds)) => (treL Γ i as).map (.lst (ds.map Tre.d) :: ·)
      | _ => none
    else none
theorem tres_dna {K : PySem.W.Frag} {G : Rg} {H : Hp} : ∀ {vs : List V} {ds : List PyData}, DnA K G H vs ds → TresOk K G H vs [] (ds.map Tre.d)
  | _, _, .nil => .nil
  | _, _, .cons h a => .cons (f1 := []) (f2 := []) (.d h) (tres_dna a) (by simp)
theorem treL_ok {K : PySem.W.Frag} {G : Gh} {H : Hp} {σ : St} {Γ : List Sl} {i : Nat} {p : Addr} {us : List V} {es : List PyData} (hi : Γ[i]? = some (.own (.lst es))) (hp : H p = some (.lst us)) (hσ : σ[i]? = some (some (V.ref p))) (hd : DnA K (RgN G) H us es) : ∀ {as : List AV} {vs : List V} {ts : List Tre}, treL Γ i as = some ts → AVs K G H σ vs as → TresOk K (RgN G) H vs (if as.any isS then [p] else []) ts
  | [], _, _, e, .nil => by cases e; exact .nil
  | .d fr x :: as, _, ts, e, .cons (v := v) q r => by
    unfold treL at e
    split at e
    · rename_i hc
      cases h : treL Γ i as with
      | none => rw [h] at e; cases e
      | some us =>
        rw [h] at e
        cases e
        have q : Dn K (RgN G) H v x := by
          cases fr with
          | true => exact q
          | false => exact Dn.free q (by simpa using hc)
        have ih := treL_ok hi hp hσ hd h r
        show TresOk _ _ _ _ ([] ++ (if as.any isS then [p] else [])) _
        exact .cons (.d q) ih (by simp)
    · cases e
  | .s j :: as, _, ts, e, .cons (v := v) q r => by
    unfold treL at e
    split at e
    · rename_i hc
      rw [Bool.and_eq_true, Bool.not_eq_true'] at hc
      have hj : j = i := of_decide_eq_true hc.1
      subst hj
      rw [hi] at e
      cases h : treL Γ j as with
      | none => rw [h] at e; cases e
      | some ts' =>
        rw [h] at e
        cases e
        have q : σ[j]? = some (some v) := q
        rw [hσ] at q
        cases q
        have ih := treL_ok hi hp hσ hd h r
        rw [hc.2] at ih
        show TresOk _ _ _ _ (if (isS (AV.s j) || as.any isS) then [p] else []) _
        exact .cons (f1 := [p]) (f2 := []) (.lst hp (tres_dna hd) (by simp)) ih (by simp)
    · cases e
def slotOf : List AV → Option Nat
  | [] => none
  | .s j :: _ => some j
  | _ :: as => slotOf as
def bRetT (k : DA) : DS := fun Γ => (k Γ).bind fun z => (R.req (szB z.1)).bind fun _ => (R.ofO (slotOf z.1)).bind fun i => (R.ofO (treL z.2 i z.1)).bind fun ts => match z.2[i]? with
  | some (.own (.lst _)) => .val (.rt (.c (.tr (.tup ts))), z.2.set i .un)
  | _ => .bad
theorem slotOf_any {as : List AV} {i : Nat} (h : slotOf as = some i) : as.any isS = true := by
  induction as with
  | nil => cases h
  | cons a as ih =>
    cases a with
    | s j => rfl
    | d fr x => exact ih h
section
variable {X : Cx} {W : WX} {sc : Scope} {N : List Str} {e : Expr} {es : List Expr} {apos cpos pos p p2 : Pos} {k : DA} {f : DF}
theorem c1_retT {kk : Nat} {tpos : Pos} (ha : CA X W es k) : C1 X W (.Return (some (.Tuple es kk tpos)) pos) (bRetT k) := fun Γ =>
  ps_imp (ps_ret (pe_tup (ha Γ))) fun D σ H ⟨G, S, p⟩ => ⟨G, S, (Pst.bind p).imp fun z G1 H1 e1 p1 vs S1 av => by
    obtain ⟨hsz, p1⟩ := Pst.req p1
    obtain ⟨i, hi, p1⟩ := Pst.ofO p1
    obtain ⟨ts, ht, p1⟩ := Pst.ofO p1
    split at p1
    · rename_i ds hg
      refine ⟨by rw [av.len]; exact of_decide_eq_true hsz, fun q hq => ?_⟩
      obtain ⟨S2, e2⟩ := S1.grow (grow_new (o := .tup vs) S1.w hq)
      obtain ⟨v, H', h1, S3, e3, fp, n1, n2, a, us, rfl, rfl, n4, n5⟩ := S2.releaseC i hg
      have av2 := AVs.ext e2 av
      have tok := treL_ok hg n4 h1 n5 ht av2
      rw [slotOf_any hi, if_pos rfl] at tok
      have hqt : upd H1 q (.tup vs) q = some (.tup vs) := upd_same
      exact p1 _ H' (e2.tr e3) σ (.ref q) _ S3 ⟨[a], n1, n2, .tup hqt tok, q, rfl, .inr ⟨vs, hqt⟩⟩
    · exact p1.elim⟩
end
theorem TresOk.snoc {K : PySem.W.Frag} {G : Rg} {H : Hp} {v : V} {x : PyData} (hx : Dn K G H v x) : ∀ {vs : List V} {fp : List Addr} {ts : List Tre}, TresOk K G H vs fp ts → TresOk K G H (vs ++ [v]) fp (ts ++ [.d x])
  | _, _, _, .nil => .cons (f1 := []) (f2 := []) (.d hx) .nil (by simp)
  | _, _, _, .cons h a n => .cons h (TresOk.snoc hx a) n
theorem TresOk.length {K : PySem.W.Frag} {G : Rg} {H : Hp} : ∀ {vs : List V} {fp : List Addr} {ts : List Tre}, TresOk K G H vs fp ts → vs.length = ts.length
  | _, _, _, .nil => rfl
  | _, _, _, .cons _ a _ => by simp [TresOk.length a]
section
variable {X : Cx} {W : WX} {sc : Scope} {N : List Str} {e : Expr} {es : List Expr} {apos cpos pos ipos p p2 : Pos} {k : DA} {f : DF} {x : Str}
theorem at_natV {α : Type} {xs : List α} {c : Nat} {x : α} (h : xs[c]? = some x) : atI xs (c : Int) = some x := by
  have hl := (List.getElem?_eq_some_iff.mp h).1
  unfold atI ixN
  rw [if_pos (by omega), if_pos (by omega)]
  simpa using h
end
end PD
set_option Elab.async false
set_option linter.all false
set_option maxRecDepth 100000
set_option maxHeartbeats 4000000
set_option autoImplicit false
namespace PD
open PySem L2
section
variable {X : Cx} {W : WX} {sc : Scope} {N : List Str} {a : Expr} {pos p : Pos} {f : DF}
end
end PD
set_option Elab.async false
set_option linter.all false
set_option maxRecDepth 100000
set_option maxHeartbeats 4000000
set_option autoImplicit false
namespace PD
open PySem L2 RT
section
variable {X : Cx} {W : WX} {sc : Scope} {N : List Str} {e tg : Expr} {pos p : Pos} {f : DF}
end
end PD
set_option Elab.async false
set_option linter.all false
set_option maxRecDepth 100000
set_option maxHeartbeats 4000000
set_option autoImplicit false
namespace HT
open PySem PySem.Spec PyProof.Rows
section
variable {prog : Program} {w : World} {A : Around} {E : Value → Shared → Prop} {s : Shared}
end
end HT
namespace PD
open PySem PySem.Spec L2
open PyProof.Rows hiding St
section
variable {X : Cx} {W : WX} {sc : Scope} {N : List Str} {a : Expr} {p1 p2 p3 pos : Pos} {f : DF}
end
end PD
set_option Elab.async false
set_option linter.all false
set_option maxRecDepth 100000
set_option maxHeartbeats 4000000
set_option autoImplicit false
namespace PD
open PySem PySem.Spec L2
open PyProof.Rows hiding St
structure InsC (K : PySem.W.Frag) (c : Str) (fs : List Str) : Prop where
  cls : Cls K (He.ga K c)
  no : ∀ f ∈ fs, NoAttr K (He.ga K c) f
  mks : PySem.W.makesIn K (He.ga K c) = true
  kp : PySem.W.keepIn K (.ref (He.ga K c)) = true
def methB (K : PySem.W.Frag) (c m : Str) : Bool := decide (PySem.W.findIn K (.ref (He.ga K c)) m = some (some (.ref (He.fAd K (c, some m))))) && (PySem.W.isFn K (.ref (He.fAd K (c, some m))) && PySem.W.keepIn K (.ref (He.fAd K (c, some m))))
theorem methB_ok {K : PySem.W.Frag} {c m : Str} (h : methB K c m = true) : Meth K (He.ga K c) m (He.fAd K (c, some m)) := by
  unfold methB at h
  simp only [Bool.and_eq_true, decide_eq_true_eq] at h
  exact ⟨h.1, h.2.1, h.2.2⟩
section
variable {X : Cx} {W : WX} {sc : Scope} {N : List Str} {a b e o : Expr} {es : List Expr} {apos cpos pos p p2 : Pos} {k : DA} {f g : DF} {s : Stmt} {cl : List (Str × List Str)}
end
end PD
set_option Elab.async false
set_option linter.all false
set_option maxRecDepth 100000
set_option maxHeartbeats 4000000
set_option autoImplicit false
namespace PD
open PySem PySem.Spec L2
open PyProof.Rows hiding St
def leavesD : List Tre → Option (List PyData)
  | [] => some []
  | .d x :: ts => (leavesD ts).map (x :: ·)
  | _ => none
theorem leavesD_eq : ∀ {ts : List Tre} {ds : List PyData}, leavesD ts = some ds → ts = ds.map Tre.d
  | [], _, h => by cases h; rfl
  | .d x :: ts, ds, h => by
    unfold leavesD at h
    cases q : leavesD ts with
    | none => rw [q] at h; cases h
    | some es => rw [q] at h; cases h; rw [leavesD_eq q]; rfl
  | .lst _ :: _, _, h => by cases h
  | .tup _ :: _, _, h => by cases h
  | .dic _ _ _ :: _, _, h => by cases h
  | .ins _ _ _ :: _, _, h => by cases h
section
variable {X : Cx} {W : WX} {sc : Scope} {N : List Str} {a b e o : Expr} {es : List Expr} {apos cpos pos p p2 pos' tpos : Pos} {f g fe fi : DF} {s : Stmt} {cl : List (Str × List Str)} {x n : Str}
end
end PD
set_option Elab.async false
set_option linter.all false
set_option maxRecDepth 100000
set_option maxHeartbeats 4000000
set_option autoImplicit false
namespace PD
open PySem PySem.Spec L2
open PyProof.Rows hiding St
abbrev DK := List Sl → Option (Bool × PyData)
section
variable {X : Cx} {W : WX} {sc : Scope} {N : List Str} {a b e o : Expr} {es : List Expr} {apos cpos pos p p2 pos' tpos : Pos} {f g fe fi : DF} {s : Stmt} {cl : List (Str × List Str)} {x n : Str} {r : DK}
end
end PD
set_option Elab.async false
set_option linter.all false
set_option maxRecDepth 100000
set_option maxHeartbeats 4000000
set_option autoImplicit false
namespace PD
open PySem PySem.Spec L2
open PyProof.Rows hiding St
section
variable {X : Cx} {CX : CXT} {k : Nat} {f C : Addr} {fd : FuncData} {ps : List Str} {sp : Sp} {dvs : List V} {ds : List Value} {E : St → XK} {x m : Str} {p pos apos : Pos} {e o : Expr} {es : List Expr} {ta : TE} {t : TA}
end
def CleeM (X : Cx) (c mn : Str) (dvs : List V) (sp : Sp) : Prop :=
  ∃ (k : Nat) (f : Addr) (fd : FuncData) (ps : List Str) (ds : List Value), FnOk X.prog X.w X.K X.mg X.base (L2N.CX X.prog X.w) k f fd ps sp ∧ Room k X.A ∧ Cls X.K (He.ga X.K c) ∧ Meth X.K (He.ga X.K c) mn f ∧ Binds X.K fd ps ds ∧ Vals dvs ds
def CleeI (X : Cx) (c : Str) (dvs : List V) (sp : Sp) : Prop :=
  ∃ (k : Nat) (f : Addr) (fd : FuncData) (ps : List Str) (ds : List Value), FnOk X.prog X.w X.K X.mg X.base (L2N.CX X.prog X.w) k f fd ps sp ∧ Room (k + 1) X.A ∧ X.mg c = some (.ref (He.ga X.K c)) ∧ Mk X.K (He.ga X.K c) f ∧ Binds X.K fd ps ds ∧ Vals dvs ds
def GvM (P : Program) (w : World) (K : PySem.W.Frag) (mg : Str → Option Value) (base : Heap) (k : Nat) (c mn : Str) (dvs : List V) (sp : Sp) : Prop :=
  ∃ (f : Addr) (fd : FuncData) (ps : List Str) (ds : List Value), FnOk P w K mg base (L2N.CX P w) k f fd ps sp ∧ Cls K (He.ga K c) ∧ Meth K (He.ga K c) mn f ∧ Binds K fd ps ds ∧ Vals dvs ds
def GvI (P : Program) (w : World) (K : PySem.W.Frag) (mg : Str → Option Value) (base : Heap) (k : Nat) (c : Str) (dvs : List V) (sp : Sp) : Prop :=
  ∃ (f : Addr) (fd : FuncData) (ps : List Str) (ds : List Value), FnOk P w K mg base (L2N.CX P w) k f fd ps sp ∧ mg c = some (.ref (He.ga K c)) ∧ Mk K (He.ga K c) f ∧ Binds K fd ps ds ∧ Vals dvs ds
section
variable {P : Program} {w : World} {K : PySem.W.Frag} {mg : Str → Option Value} {base : Heap} {k k' : Nat} {c mn : Str} {dvs : List V} {sp : Sp} {X : Cx} {W : WX} {scope : Scope} {N fs : List Str} {fd : FuncData} {ps : List Str} {ds : List Value} {m : List Ar → R (Rs × List Sl)}
theorem GvM.of (I : InsC K c fs) (hm : methB K c mn = true) (ok : FnOk P w K mg base (L2N.CX P w) k (He.fAd K (c, some mn)) fd ps sp) (b : Binds K fd ps ds) (hv : Vals dvs ds) : GvM P w K mg base k c mn dvs sp :=
  ⟨_, fd, ps, ds, ok, I.cls, methB_ok hm, b, hv⟩
theorem GvI.of (I : InsC K c fs) (hm : methB K c "__init__" = true) (hg : mg c = some (.ref (He.ga K c))) (ok : FnOk P w K mg base (L2N.CX P w) k (He.fAd K (c, some "__init__")) fd ps sp) (b : Binds K fd ps ds) (hv : Vals dvs ds) : GvI P w K mg base k c dvs sp :=
  ⟨_, fd, ps, ds, ok, hg, ⟨I.mks, (methB_ok hm).at_, (methB_ok hm).fn, I.kp⟩, b, hv⟩
theorem GvM.u (g : GvM P w K mg base k c mn dvs (spU K mg m)) (h : Here X W P w K mg base scope N k') (hk : k ≤ k') : CleeM X c mn dvs (spU X.K X.mg m) := by
  obtain ⟨f, fd, ps, ds, h1, h2, h3, h4, h5⟩ := g
  have e1 := h.prog
  have e2 := h.w
  have e3 := h.K
  have e4 := h.mg
  have e5 := h.base
  subst e1 e2 e3 e4 e5
  exact ⟨k, f, fd, ps, ds, h1, h.room.mono hk, h2, h3, h4, h5⟩
theorem GvI.u (g : GvI P w K mg base k c dvs (spU K mg m)) (h : Here X W P w K mg base scope N k') (hk : k + 1 ≤ k') : CleeI X c dvs (spU X.K X.mg m) := by
  obtain ⟨f, fd, ps, ds, h1, h2, h3, h4, h5⟩ := g
  have e1 := h.prog
  have e2 := h.w
  have e3 := h.K
  have e4 := h.mg
  have e5 := h.base
  subst e1 e2 e3 e4 e5
  exact ⟨k, f, fd, ps, ds, h1, h.room.mono hk, h2, h3, h4, h5⟩
theorem CleeM.tr (h : CleeM X c mn dvs sp) {pn : List (Addr × Obj)} {xe : Value → Shared → Prop} : CleeM (X.tr pn xe) c mn dvs sp := h
theorem CleeI.tr (h : CleeI X c dvs sp) {pn : List (Addr × Obj)} {xe : Value → Shared → Prop} : CleeI (X.tr pn xe) c dvs sp := h
theorem CleeM.blk (h : CleeM X c mn dvs sp) {s : Shared} {H : Hp} {scope : Scope} {ce : Env} {fp : List Addr} : CleeM (X.blk s H scope ce fp) c mn dvs sp := h
theorem CleeI.blk (h : CleeI X c dvs sp) {s : Shared} {H : Hp} {scope : Scope} {ce : Env} {fp : List Addr} : CleeI (X.blk s H scope ce fp) c dvs sp := h
end
section
variable {X : Cx} {W : WX} {sc : Scope} {N : List Str} {e o : Expr} {es : List Expr} {apos p pos : Pos} {x c n : Str} {fe : DF} {k : DA} {dvs : List V} {dds : List PyData} {m : List Ar → R (Rs × List Sl)} {ms : List Bool}
end
end PD
set_option Elab.async false
set_option linter.all false
set_option maxRecDepth 100000
set_option maxHeartbeats 4000000
set_option autoImplicit false
namespace PD
open PySem PySem.Spec L2 Srt SrtO
open PySem.W (alike AllAlike Sortable dataLe EachIs)
open PyProof.Rows hiding St
section
variable {P : Program} {w : World} {A : Around} {E : Value → Shared → Prop} {s : Shared}
end
section
variable {X : Cx} {W : WX} {sc : Scope} {N : List Str} {a e : Expr} {p pos : Pos} {f : DF}
end
end PD
set_option Elab.async false
set_option linter.all false
set_option maxRecDepth 100000
set_option maxHeartbeats 4000000
set_option autoImplicit false
namespace PD
open PySem L2
def bUnT2 (i j : Nat) (f : DX) : DS := fun Γ => (f Γ).bind fun z => match z.1 with
  | .c (.tr (.tup [.d a, .lst us])) => (R.ofO (leavesD us)).bind fun ds => (R.req (decide (i ≠ j))).bind fun _ => .val (.nx, (z.2.set j (.own (.lst ds))).set i (.dat true a))
  | _ => .bad
theorem tresD_dna {K : PySem.W.Frag} {G : Rg} {H : Hp} : ∀ {ds : List PyData} {vs : List V} {fp : List Addr}, TresOk K G H vs fp (ds.map Tre.d) → DnA K G H vs ds ∧ fp = []
  | [], _, _, .nil => ⟨.nil, rfl⟩
  | d :: ds, _, _, .cons (f2 := f2) h a n => by
    cases h with
    | d q =>
      obtain ⟨h1, h2⟩ := tresD_dna (ds := ds) a
      subst h2
      exact ⟨.cons q h1, rfl⟩
section
variable {X : Cx} {W : WX} {sc : Scope} {N : List Str} {e : Expr} {pos : Pos} {f : DX}
theorem c1_unT2 (C : Cf X W sc N) (i j : Nat) {x y : Str} {kk : Nat} {px py p : Pos} (hNx : N[i]? = some x) (hvx : Sto X sc x) (hNy : N[j]? = some y) (hvy : Sto X sc y) (he : CX X W e f)
    (hn : (assignEach [.Name x px, .Name y py] X.env).length = 2 := by rfl) (hst : (assignEach [.Name x px, .Name y py] X.env).findIdx? (·.1) = none := by rfl) (hs1 : (assignEach [.Name x px, .Name y py] X.env).map (·.2) = assign (.Name x px) X.env :: (assignEach [.Name y py] X.env).map (·.2) := by rfl) (hs2 : (assignEach [.Name y py] X.env).map (·.2) = assign (.Name y py) X.env :: (assignEach [] X.env).map (·.2) := by rfl)
    (hs : swapsWithSole [.Tuple [.Name x px, .Name y py] kk p] e pos.line X.env = pure false := by rfl) (hw : swappedStores [.Tuple [.Name x px, .Name y py] kk p] e X.env = pure none := by rfl) (h1 : (assignEach [.Tuple [.Name x px, .Name y py] kk p] X.env).map (·.2) = [assign (.Tuple [.Name x px, .Name y py] kk p) X.env] := by rfl) :
    C1 X W (.Assign [.Tuple [.Name x px, .Name y py] kk p] e pos) (bUnT2 i j f) := fun Γ => by
  refine ps_imp (ps_asg (he Γ) (pg_tup (n := 2) C.calm (pgs_cons (C.pg hNx hvx) (pgs_cons (C.pg hNy hvy) pgs_nil hs2) hs1) hn hst) hs hw h1) fun D σ H ⟨G, S, p⟩ => ⟨G, S, (Pst.bind p).imp fun z G1 H1 e1 p1 => ?_⟩
  obtain ⟨r, Γ1⟩ := z
  cases r with
  | d q => exact fun _ _ _ => p1.elim
  | c c =>
    intro v H2 S1 nc
    simp only at p1
    split at p1
    · rename_i a us heq
      cases heq
      obtain ⟨ds, hds, p2⟩ := Pst.ofO p1
      obtain ⟨hij, p3⟩ := Pst.req p2
      have hij : i ≠ j := of_decide_eq_true hij
      obtain ⟨fp, k1, k2, tk, _⟩ := nc
      have e := leavesD_eq hds
      subst e
      cases tk with
      | tup hq hr =>
        cases hr with
        | cons t1 r1 =>
          cases t1 with
          | d dw =>
            cases r1 with
            | cons t2 r2 =>
              cases r2
              cases t2 with
              | lst hp ht hn =>
                obtain ⟨hd, hf⟩ := tresD_dna ht
                subst hf
                have nc2 : NewC X.K (rg G1 true) H1 (.lst ds) _ H2 := ⟨_, k1, k2, _, _, rfl, rfl, hp, hd⟩
                obtain ⟨S2, e2⟩ := S1.putC j nc2
                refine ⟨_, _, rfl, SqT.of hq, rfl, _, _, rfl, _, _, rfl, rfl, ?_⟩
                have S3 := S2.put i (fr := true) dw
                rw [List.set_comm _ _ (Ne.symm hij)] at S3
                exact p3 G1 H2 e2 _ S3
    · exact p1.elim
end
end PD
set_option Elab.async false
set_option linter.all false
set_option maxRecDepth 100000
set_option maxHeartbeats 4000000
set_option autoImplicit false
namespace SrtK
open PySem PySem.W PySem.Calls PyProof.Rows
section
variable {prog : Program} {w : World} {A : Around} {E : Value → Shared → Prop} {a : Addr} {vs : List Value} {kz : List Int} {f : Value} {P : PySem.Fin → Shared → Prop}
end
end SrtK
namespace PD
open PySem L2
section
open PySem.W PySem.Calls PyProof.Rows
variable {X : Cx} {pins : List (Addr × Obj)} {σ : L2.St} {H : Hp} {s : Shared} {Q : VK}
end
end PD
namespace PD
open PySem L2
def CleeS (X : Cx) (x : Str) (sp : Sp) : Prop :=
  ∃ (k : Nat) (f : Addr) (fd : FuncData) (ps : List Str), FnOk X.prog X.w X.K X.mg X.base (L2N.CX X.prog X.w) k f fd ps sp ∧ Room (k + 2) X.A ∧ X.mg x = some (.ref f) ∧ Binds X.K fd ps []
section
variable {X : Cx} {W : WX} {sc : Scope} {N : List Str} {e : Expr} {p py pos kpos : Pos} {f : DF} {y : Str} {m : List Ar → R (Rs × List Sl)}
end
theorem Gv.key {P : Program} {w : World} {K : PySem.W.Frag} {mg : Str → Option Value} {base : Heap} {k k' : Nat} {x : Str} {m : List Ar → R (Rs × List Sl)} {scope : Scope} {X : Cx} {W : WX} {N : List Str} (g : Gv P w K mg base k x [] (spU K mg m)) (h : Here X W P w K mg base scope N k') (hk : k + 2 ≤ k') : CleeS X x (spU X.K X.mg m) := by
  obtain ⟨f, fd, ps, ds, g1, g2, g3, g4, g5⟩ := g
  cases g5
  rw [h.K, h.mg]
  refine ⟨k, f, fd, ps, ?_, h.room.mono hk, ?_, ?_⟩
  · rw [h.prog, h.w, h.K, h.mg, h.base]; exact g1
  · rw [h.mg]; exact g2
  · rw [h.K]; exact g4
end PD
set_option Elab.async false
set_option linter.all false
set_option maxRecDepth 100000
set_option maxHeartbeats 4000000
set_option autoImplicit false
namespace PD
open PySem L2
section
variable {X : Cx} {W : WX} {sc : Scope} {N : List Str} {e e1 : Expr} {p pos : Pos} {f : DF} {r : DK} {cl : List (Str × List Str)}
def CPu (X : Cx) (W : WX) (e : Expr) (r : DK) : Prop := ∀ Γ z, r Γ = some z → PE X e (fun σ H Q => ∃ G H0, Sta X.K G H0 σ Γ ∧ (∀ a o, H0 a = some o → H a = some o) ∧ ∀ v, Dn X.K (rg G z.1) H0 v z.2 → Q v H)
end
end PD
set_option Elab.async false
set_option linter.all false
set_option maxRecDepth 100000
set_option maxHeartbeats 4000000
set_option autoImplicit false
namespace PD
open PySem PySem.Spec L2
open PyProof.Rows hiding St
theorem TresOk.split {K : PySem.W.Frag} {G : Rg} {H : Hp} {t : Tre} : ∀ (ts : List Tre) {vs : List V} {fp : List Addr}, TresOk K G H vs fp (ts ++ [t]) → ∃ vs1 v f1 f2, vs = vs1 ++ [v] ∧ TresOk K G H vs1 f1 ts ∧ TreOk K G H v f2 t ∧ (∀ a, a ∈ fp ↔ a ∈ f1 ∨ a ∈ f2) ∧ ∀ p ∈ f1, p ∉ f2
  | [], vs, fp, h => by
    have h : TresOk K G H vs fp [t] := h
    cases h with
    | @cons v vs2 f1 f2 _ _ h1 a n =>
      cases a
      exact ⟨[], v, [], f1, rfl, .nil, h1, fun a => by simp, fun p hp => by cases hp⟩
  | t1 :: ts, vs, fp, h => by
    have h : TresOk K G H vs fp (t1 :: (ts ++ [t])) := h
    cases h with
    | @cons v vs2 f1 f2 _ _ h1 a n =>
      obtain ⟨vs1, w, g1, g2, rfl, b1, b2, b3, b4⟩ := TresOk.split ts a
      refine ⟨v :: vs1, w, f1 ++ g1, g2, rfl, .cons h1 b1 (fun p hp z => n p hp ((b3 p).mpr (.inl z))), b2, fun a => ?_, fun p hp => ?_⟩
      · rw [List.mem_append, List.mem_append, b3, or_assoc]
      · rcases List.mem_append.mp hp with z | z
        · exact fun q => n p z ((b3 p).mpr (.inr q))
        · exact b4 p z
theorem NewC.lockT {K : PySem.W.Frag} {G : Gh} {H H' : Hp} {σ : St} {Γ : List Sl} {nm : Str} {fs : List Str} {ts us : List Tre} {t : Dk} {ks : List PyData} {v : V} {ds0 ds : List PyData} (S : Sta K G H σ Γ) (h : NewC K (rg G true) H (.tr (.ins nm fs (ts ++ [.dic t ks us]))) v H') (e0 : trDs ts = some ds0) (e1 : trDs us = some ds) :
    ∃ p ob, H' p = some ob ∧ Mut (some ob) ∧ ∀ od, ∃ G', Sta K G' (upd H' p (.frz od ob)) σ Γ ∧ Ext G H G' (upd H' p (.frz od ob)) ∧ Dn K (rg G' true) (upd H' p (.frz od ob)) v (inD nm (fs.zip (ds0 ++ [.dict (ks.zip ds)]))) := by
  obtain ⟨fp, h1, h2, h3⟩ := h
  have h3 := h3.1
  generalize hT : Tre.ins nm fs (ts ++ [.dic t ks us]) = T at h3
  cases h3 with
  | d _ => cases hT
  | lst _ _ _ => cases hT
  | tup _ _ => cases hT
  | dic _ _ _ _ => cases hT
  | @ins p dx nm' fs' fp1 ts' q1 q2 ne a n1 n2 =>
    cases hT
    obtain ⟨vs1, w, f1, f2, ev, b1, b2, b3, b4⟩ := TresOk.split ts a
    generalize hT2 : Tre.dic t ks us = T2 at b2
    cases b2 with
    | d _ => cases hT2
    | lst _ _ _ => cases hT2
    | tup _ _ => cases hT2
    | ins _ _ _ _ _ _ => cases hT2
    | @dic pd o t' ks' vs2 fp2 us' c1 c2 c3 c4 =>
      cases hT2
      have hmu : Mut (some o) := by
        cases t with
        | k => obtain ⟨ks, rfl, _⟩ := c2; trivial
        | t => obtain ⟨ks, rfl, _⟩ := c2; trivial
        | n => obtain ⟨_, _, rfl, _⟩ := c2; trivial
      have hnt : ∀ xs, o ≠ .tup xs := fun xs z => by rw [z] at hmu; exact hmu
      refine ⟨pd, o, c1, hmu, fun od => ?_⟩
      have hpd : pd ∈ fp1 := (b3 pd).mpr (.inr (by simp))
      have hpp : p ≠ pd := fun z => n1 (by rw [z]; exact hpd)
      have hpx : dx ≠ pd := fun z => n2 (by rw [z]; exact hpd)
      have hin : ∀ a ∈ p :: dx :: fp1, H a = none := fun a ha => (h2 a ha).1
      have tl : TupLe H' (upd H' pd (.frz od o)) := tup_mut c1 hnt
      let H2 : Hp := upd H' pd (.frz od o)
      have hH2 : ∀ a, a ≠ pd → H2 a = H' a := fun a z => upd_ne z
      let N' : Hp := fun a => if a ∈ p :: dx :: fp1 then H2 a else G.N a
      have nN : ∀ a o, G.N a = some o → a ∉ p :: dx :: fp1 := fun a o e z => by
        have := (S.w.new a o e).1
        rw [hin a z] at this; cases this
      have g : Grow G H N' H2 [] := by
        have k : ∀ a o, H a = some o → H2 a = some o := fun a o e => by
          have z : a ∉ p :: dx :: fp1 := fun z => by rw [hin a z] at e; cases e
          rw [hH2 a (fun q => z (by rw [q]; simp [hpd])), h1 a z]; exact e
        refine ⟨fun a o e _ => k a o e, fun _ z => absurd z (by simp), fun a xs e => k _ _ e, fun a o e => ?_, fun a o e => ?_⟩
        · show (if a ∈ p :: dx :: fp1 then H2 a else G.N a) = some o
          rw [if_neg (nN a o e)]; exact e
        · have e : (if a ∈ p :: dx :: fp1 then H2 a else G.N a) = some o := e
          by_cases z : a ∈ p :: dx :: fp1
          · rw [if_pos z] at e; exact ⟨e, .inr (hin a z)⟩
          · rw [if_neg z] at e; exact ⟨k _ _ (S.w.new a o e).1, .inl e⟩
      obtain ⟨S2, e2⟩ := S.grow g
      have rgT : ∀ a ∈ p :: dx :: fp1, ∀ o, H2 a = some o → N' a = some o := fun a ha o ho => by
        show (if a ∈ p :: dx :: fp1 then H2 a else G.N a) = some o
        rw [if_pos ha]; exact ho
      refine ⟨_, S2, e2, ?_⟩
      have hm1 : ∀ a ∈ f1, H2 a = H' a := fun a ha => hH2 a fun z => b4 a ha (by rw [z]; simp)
      have hm2 : ∀ a ∈ fp2, H2 a = H' a := fun a ha => hH2 a fun z => c4 (by rw [← z]; exact ha)
      have d1 := TresOk.dn e2.n (b1.mono (fun _ _ z => z) tl hm1) (fun a ha o ho => rgT a (by simp [(b3 a).mpr (.inl ha)]) o ho) ds0 e0
      have d2 := TresOk.dn e2.n (c3.mono (fun _ _ z => z) tl hm2) (fun a ha o ho => rgT a (by simp [(b3 a).mpr (.inr (by simp [ha]))]) o ho) ds e1
      have l2 : ks.length = ds.length := by rw [c2.len, c3.len1, trDs_len e1]
      have dd : Dn K (rg ⟨G.H0, G.P, G.I, N', G.E⟩ true) H2 (.ref pd) (.dict (ks.zip ds)) := .dct ⟨od, rgT pd (by simp [hpd]) _ upd_same⟩ (by rw [zip_fst l2]; exact c2) (by rw [zip_snd l2]; exact d2)
      have da := d1.append (.cons dd .nil)
      rw [← ev] at da
      have l1 : (fs'.map (·.1)).length = (ds0 ++ [PyData.dict (ks.zip ds)]).length := by
        have := da.length
        rw [List.length_map] at this ⊢
        exact this
      exact .ins (rgT p (by simp) _ ((hH2 p hpp).trans q1)) (rgT dx (by simp) _ ((hH2 dx hpx).trans q2)) (by rw [zip_fst l1]) (by rw [zip_snd l1]; exact da)
section
variable {X : Cx} {W : WX} {sc : Scope} {N : List Str} {e tg : Expr} {f : DX} {apos cpos : Pos}
end
end PD
set_option Elab.async false
set_option linter.all false
set_option maxRecDepth 100000
set_option maxHeartbeats 4000000
set_option autoImplicit false
namespace PD
open PySem PySem.Spec L2 Srt SrtO
open PySem.W
open PyProof.Rows hiding St
section
variable {prog : Program} {w : World} {A : Around} {s : Shared}
variable {β : Type} {vs : List Value} {bs : List β} {enc : β → PyData} {R : Value → β → Prop} {E : Value → Shared → Prop}
end
section
variable {X : Cx} {W : WX} {sc : Scope} {N : List Str} {a e : Expr} {p pos : Pos} {k : DA}
end
end PD
set_option Elab.async false
set_option linter.all false
set_option maxRecDepth 100000
set_option maxHeartbeats 4000000
set_option autoImplicit false
namespace PD
open PySem PySem.Spec L2
open PyProof.Rows hiding St
section
variable {X : Cx} {W : WX} {a b : Expr} {pos : Pos} {f : DN} {g : DF}
end
end PD
set_option Elab.async false
set_option linter.all false
set_option maxRecDepth 100000
set_option maxHeartbeats 4000000
set_option autoImplicit false
namespace PD
open PySem L2
section
variable {X : Cx} {W : WX} {sc : Scope} {N : List Str} {a b c e : Expr} {es : List Expr} {pos p : Pos} {f : DF} {x : Str} {dvs : List V} {dds : List PyData} {m : List Ar → R (Rs × List Sl)} {kws : List Keyword} {ks : List Str} {n : Nat} {pm : List Nat} {k kk : DA}
end
end PD
set_option Elab.async false
set_option linter.all false
set_option maxRecDepth 100000
set_option maxHeartbeats 4000000
set_option autoImplicit false
namespace PD
open PySem PySem.Spec L2
open PyProof.Rows hiding St
section
variable {X : Cx} {pins : List (Addr × Obj)} {σ : St} {H : Hp} {s : Shared} {a b : Addr} {r : Value} {d : V} {k : NestedKey} {A : Around} {E : Value → Shared → Prop} {rs : List (NestedKey × Addr × V)}
end
inductive MnRel (K : PySem.W.Frag) (G : Rg) (H : Hp) : List (NestedKey × Addr × V) → List Addr → List (PyData × List PyData) → Prop
  | nil : MnRel K G H [] [] []
  | cons {r : NestedKey × Addr × V} {rs : List (NestedKey × Addr × V)} {q : Addr} {qs : List Addr} {k : PyData} {xs : List V} {ds : List PyData} {l : List (PyData × List PyData)} :
      nkD k = some r.1 → r.1.depth ≤ 8 → Dn K G H (.ref r.2.1) k → r.2.2 = .ref q → H q = some (.lst xs) → DnA K G H xs ds → MnRel K G H rs qs l → MnRel K G H (r :: rs) (q :: qs) ((k, ds) :: l)
section
variable {K : PySem.W.Frag} {G G' : Rg} {H H' : Hp} {rs : List (NestedKey × Addr × V)} {qs : List Addr} {l : List (PyData × List PyData)}
theorem MnRel.mono (g : RgLe G G') (t : TupLe H H') (h : MnRel K G H rs qs l) : (∀ q ∈ qs, H' q = H q) → MnRel K G' H' rs qs l := by
  induction h with
  | nil => exact fun _ => .nil
  | cons h1 h2 h3 h4 h5 h6 _ ih => exact fun k => .cons h1 h2 (h3.mono g t) h4 (by rw [k _ List.mem_cons_self]; exact h5) (h6.mono g t) (ih fun q hq => k q (List.mem_cons_of_mem _ hq))
theorem MnRel.nt (h : MnRel K G H rs qs l) : ∀ q ∈ qs, ∃ xs, H q = some (.lst xs) := by
  induction h with
  | nil => intro q hq; cases hq
  | cons h1 h2 h3 h4 h5 h6 _ ih =>
    intro q hq
    rcases List.mem_cons.mp hq with rfl | hq
    · exact ⟨_, h5⟩
    · exact ih q hq
theorem MnRel.len (h : MnRel K G H rs qs l) : rs.length = l.length := by
  induction h with
  | nil => rfl
  | cons _ _ _ _ _ _ _ ih => rw [List.length_cons, List.length_cons, ih]
theorem MnRel.ks (h : MnRel K G H rs qs l) : ∀ r ∈ rs, ∃ G' k', Dn K G' H (.ref r.2.1) k' ∧ nkD k' = some r.1 ∧ r.1.depth ≤ 8 := by
  induction h with
  | nil => intro r hr; cases hr
  | cons h1 h2 h3 _ _ _ _ ih =>
    intro r hr
    rcases List.mem_cons.mp hr with rfl | hr
    · exact ⟨_, _, h3, h1, h2⟩
    · exact ih r hr
end
theorem MnRel.snoc {K : PySem.W.Frag} {G : Rg} {H : Hp} {rs : List (NestedKey × Addr × V)} {qs : List Addr} {l : List (PyData × List PyData)} (h : MnRel K G H rs qs l) {kk : NestedKey} {b q : Addr} {k : PyData} {xs : List V} {ds : List PyData}
    (h1 : nkD k = some kk) (h2 : kk.depth ≤ 8) (h3 : Dn K G H (.ref b) k) (h5 : H q = some (.lst xs)) (h6 : DnA K G H xs ds) : MnRel K G H (rs ++ [(kk, b, .ref q)]) (qs ++ [q]) (l ++ [(k, ds)]) := by
  induction h with
  | nil => exact .cons h1 h2 h3 rfl h5 h6 .nil
  | cons a1 a2 a3 a4 a5 a6 _ ih => exact .cons a1 a2 a3 a4 a5 a6 ih
section
variable {X : Cx} {W : WX} {sc : Scope} {N : List Str} {x y : Str} {e : Expr} {pos lpos p1 p2 a1 a2 c1 c2 : Pos} {fk : DF}
end
theorem MnRel.nd {K : PySem.W.Frag} {G G' : Rg} {H : Hp} {rs : List (NestedKey × Addr × V)} {qs : List Addr} {l : List (PyData × List PyData)} (h : MnRel K G H rs qs l) (g : RgLe G G') : (∀ q ∈ qs, ∀ o, H q = some o → G' q o) → NdRel K G' H rs (mulD l) := by
  induction h with
  | nil => exact fun _ => .nil
  | cons h1 h2 h3 h4 h5 h6 _ ih => exact fun k => .cons h1 h2 (h3.mono g (TupLe.rf _)) (by rw [h4]; exact .lst (.inl (k _ List.mem_cons_self _ h5)) (h6.mono g (TupLe.rf _))) (ih fun q hq => k q (List.mem_cons_of_mem _ hq))
section
variable {X : Cx} {W : WX} {sc : Scope} {N : List Str} {ss : List Stmt} {g : DS}
end
section
variable {X : Cx} {W : WX} {sc : Scope} {N : List Str} {e tg : Expr} {f : DF} {apos cpos : Pos}
end
end PD
set_option Elab.async false
set_option linter.all false
set_option maxRecDepth 100000
set_option maxHeartbeats 4000000
set_option autoImplicit false
namespace PD
open PySem PySem.Spec L2
open PyProof.Rows hiding St
def stp {α : Type} (xs : List α) (k : Int) : List α := pickP (sliceRange 0 (xs.length : Nat) k) xs
theorem DnA.pickP {K : PySem.W.Frag} {G : Rg} {H : Hp} {vs : List V} {ds : List PyData} (h : DnA K G H vs ds) (pm : List Nat) : DnA K G H (pickP pm vs) (pickP pm ds) := by
  induction pm with
  | nil => exact .nil
  | cons i r ih =>
    unfold PD.pickP at ih ⊢
    rw [List.filterMap_cons, List.filterMap_cons]
    cases hv : vs[i]? with
    | none =>
      have : ds[i]? = none := by
        rw [List.getElem?_eq_none_iff] at hv ⊢
        rw [← h.length]; exact hv
      rw [this]; exact ih
    | some v =>
      obtain ⟨d, h1, h2⟩ := h.get hv
      rw [h1]
      exact .cons h2 ih
section
variable {X : Cx}
end
section
variable {X : Cx} {W : WX} {sc : Scope} {N : List Str} {a e : Expr} {f : DF} {fs : DO} {p3 pos : Pos}
end
end PD
set_option Elab.async false
set_option linter.all false
set_option maxRecDepth 100000
set_option maxHeartbeats 4000000
set_option autoImplicit false
namespace PD
open PySem PySem.Spec L2
open PyProof.Rows hiding St
section
variable {X : Cx} {W : WX} {sc : Scope} {N : List Str} {a b e : Expr} {f g : DF} {p2 pos apos : Pos}
end
end PD
set_option Elab.async false
set_option linter.all false
set_option maxRecDepth 100000
set_option maxHeartbeats 4000000
set_option autoImplicit false
namespace PD
open PySem PySem.Spec L2
open PyProof.Rows hiding St
section
variable {X : Cx} {W : WX} {sc : Scope} {N : List Str} {a b e tg o : Expr} {es : List Expr} {f g : DF} {p p2 pos apos cpos : Pos} {k : DA} {x : Str} {vs : List V} {ds : List PyData}
end
end PD
set_option Elab.async false
set_option linter.all false
set_option maxRecDepth 100000
set_option maxHeartbeats 4000000
set_option autoImplicit false
namespace PD
open PySem L2
section
variable {X : Cx} {W : WX} {sc : Scope} {N : List Str} {b b1 b2 e : Expr} {pos : Pos}
end
end PD
set_option Elab.async false
set_option linter.all false
set_option maxRecDepth 100000
set_option maxHeartbeats 4000000
set_option autoImplicit false
namespace PD
open PySem L2
def lsT (dss : List (List PyData)) : Tre := .lst (dss.map fun ds => .lst (ds.map Tre.d))
def compT (vs : List Nat) (g : DG) (fr : Bool) (e : DN) : List PyData → List Sl → R (List (List PyData) × List Sl)
  | [], Γ => .val ([], Γ)
  | d :: ds, Γ => (R.ofO (g fr d Γ)).bind fun Γ1 => (e Γ1).nox.bind fun y => (compT vs g fr e ds (wipeG y.2 vs)).bind fun r => .val (y.1 :: r.1, r.2)
theorem compT_cons (vs : List Nat) (g : DG) (fr : Bool) (e : DN) (d : PyData) (ds : List PyData) (Γ : List Sl) : compT vs g fr e (d :: ds) Γ = (R.ofO (g fr d Γ)).bind fun Γ1 => (e Γ1).nox.bind fun y => (compT vs g fr e ds (wipeG y.2 vs)).bind fun r => .val (y.1 :: r.1, r.2) := rfl
def cCompT (vs : List Nat) (g : DG) (it : DI) (e : DN) : DC := fun Γ => (it Γ).bind fun z => (R.req (szB z.1.1)).bind fun _ => (compT vs g z.1.2 e z.1.1 (wipeG z.2 vs)).bind fun r => .val (.tr (lsT r.1), r.2)
def pinE (E : Hp) : List (Addr × List V) → Hp
  | [] => E
  | z :: l => upd (pinE E l) z.1 (.lst z.2)
theorem pinE_out {E : Hp} : ∀ {l : List (Addr × List V)} {a : Addr}, a ∉ l.map (·.1) → pinE E l a = E a
  | [], _, _ => rfl
  | z :: l, a, h => by
    have h : a ≠ z.1 ∧ a ∉ l.map (·.1) := ⟨fun e => h (List.mem_cons.mpr (.inl e)), fun e => h (List.mem_cons.mpr (.inr e))⟩
    show upd (pinE E l) z.1 _ a = _
    rw [upd_ne h.1, pinE_out h.2]
theorem pinE_in {E : Hp} : ∀ {l : List (Addr × List V)} {z : Addr × List V}, (l.map (·.1)).Nodup → z ∈ l → pinE E l z.1 = some (.lst z.2)
  | y :: l, z, hn, h => by
    have hn := List.nodup_cons.mp (show (y.1 :: l.map (·.1)).Nodup from hn)
    show upd (pinE E l) y.1 _ z.1 = _
    rcases List.mem_cons.mp h with rfl | h
    · exact upd_same
    · rw [upd_ne (fun e => hn.1 (by rw [← e]; exact List.mem_map.mpr ⟨z, h, rfl⟩)), pinE_in hn.2 h]
def delL (H : Hp) : List (Addr × List V) → Hp
  | [] => H
  | z :: l => delL (PD.del H z.1) l
theorem delL_out : ∀ {l : List (Addr × List V)} {H : Hp} {a : Addr}, a ∉ l.map (·.1) → delL H l a = H a
  | [], _, _, _ => rfl
  | z :: l, H, a, h => by
    have h : a ≠ z.1 ∧ a ∉ l.map (·.1) := ⟨fun e => h (List.mem_cons.mpr (.inl e)), fun e => h (List.mem_cons.mpr (.inr e))⟩
    show delL (PD.del H z.1) l a = _
    rw [delL_out h.2, del_ne h.1]
theorem delL_in : ∀ {l : List (Addr × List V)} {H : Hp} {a : Addr}, a ∈ l.map (·.1) → delL H l a = none
  | z :: l, H, a, h => by
    show delL (PD.del H z.1) l a = none
    by_cases q : a ∈ l.map (·.1)
    · exact delL_in q
    · rcases List.mem_cons.mp (show a ∈ z.1 :: l.map (·.1) from h) with rfl | h
      · rw [delL_out q, del_same]
      · exact absurd h q
theorem Sta.unpinL {K : PySem.W.Frag} {σ : St} {Γ : List Sl} {E0 : Hp} {I : Nat → Option V} : ∀ {l : List (Addr × List V)} {G : Gh} {H : Hp}, Sta K G H σ Γ → G.E = pinE E0 l → G.I = I → (l.map (·.1)).Nodup → (∀ z ∈ l, E0 z.1 = none ∧ ∀ i, I i ≠ some (.ref z.1)) → Sta K ⟨G.H0, G.P, G.I, G.N, E0⟩ (delL H l) σ Γ ∧ TupLe H (delL H l) ∧ ∀ z ∈ l, H z.1 = some (.lst z.2)
  | [], G, H, S, hE, hI, _, _ => by
    have : G = ⟨G.H0, G.P, G.I, G.N, E0⟩ := by
      obtain ⟨a, b, c, d, e⟩ := G
      have hE : e = E0 := hE
      rw [hE]
    refine ⟨?_, TupLe.rf _, fun z hz => by cases hz⟩
    show Sta K ⟨G.H0, G.P, G.I, G.N, E0⟩ H σ Γ
    rw [← this]
    exact S
  | z :: l, G, H, S, hE, hI, hn, h0 => by
    have hn := List.nodup_cons.mp (show (z.1 :: l.map (·.1)).Nodup from hn)
    obtain ⟨e0, i0⟩ := h0 z (by simp)
    obtain ⟨S7, hz, t7⟩ := S.unpin (D := z.1) (o := .lst z.2) (E0 := pinE E0 l) hE (by rw [pinE_out hn.1]; exact e0) (fun _ h => by cases h) (fun _ _ h => by cases h) (fun i => by rw [hI]; exact i0 i)
    obtain ⟨S8, t8, k8⟩ := Sta.unpinL (l := l) (I := I) S7 rfl hI hn.2 fun y hy => h0 y (by simp [hy])
    refine ⟨S8, t7.tr t8, fun y hy => ?_⟩
    rcases List.mem_cons.mp hy with rfl | hy
    · exact hz
    · have := k8 y hy
      rwa [del_ne (fun e => hn.1 (by rw [← e]; exact List.mem_map.mpr ⟨y, hy, rfl⟩))] at this
theorem tres_dna' {K : PySem.W.Frag} {G : Rg} {H : Hp} : ∀ {vs : List V} {ds : List PyData}, DnA K G H vs ds → TresOk K G H vs [] (ds.map Tre.d)
  | _, _, .nil => .nil
  | _, _, .cons h a => .cons (f1 := []) (f2 := []) (.d h) (tres_dna' a) (by simp)
def RowsAt (K : PySem.W.Frag) (G : Rg) (H : Hp) : List (Addr × List V) → List (List PyData) → Prop
  | [], [] => True
  | z :: l, ds :: dss => DnA K G H z.2 ds ∧ RowsAt K G H l dss
  | _, _ => False
theorem RowsAt.mono {K : PySem.W.Frag} {G G' : Rg} {H H' : Hp} (g : RgLe G G') (t : TupLe H H') : ∀ {l : List (Addr × List V)} {dss : List (List PyData)}, RowsAt K G H l dss → RowsAt K G' H' l dss
  | [], [], _ => trivial
  | _ :: _, _ :: _, h => ⟨h.1.mono g t, RowsAt.mono g t h.2⟩
  | [], _ :: _, h => h.elim
  | _ :: _, [], h => h.elim
theorem RowsAt.len {K : PySem.W.Frag} {G : Rg} {H : Hp} : ∀ {l : List (Addr × List V)} {dss : List (List PyData)}, RowsAt K G H l dss → l.length = dss.length
  | [], [], _ => rfl
  | _ :: _, _ :: _, h => by simp [RowsAt.len h.2]
  | [], _ :: _, h => h.elim
  | _ :: _, [], h => h.elim
theorem RowsAt.tres {K : PySem.W.Frag} {G : Rg} {H : Hp} : ∀ {l : List (Addr × List V)} {dss : List (List PyData)}, RowsAt K G H l dss → (l.map (·.1)).Nodup → (∀ z ∈ l, H z.1 = some (.lst z.2)) → TresOk K G H (l.map fun z => V.ref z.1) (l.map (·.1)) (dss.map fun ds => .lst (ds.map Tre.d))
  | [], [], _, _, _ => .nil
  | z :: l, ds :: dss, h, hn, hH => by
    have hn := List.nodup_cons.mp (show (z.1 :: l.map (·.1)).Nodup from hn)
    exact .cons (f1 := [z.1]) (f2 := l.map (·.1)) (.lst (hH z (by simp)) (tres_dna' h.1) (by simp)) (RowsAt.tres h.2 hn.2 fun y hy => hH y (by simp [hy])) (fun p hp => by rw [List.mem_singleton.mp hp]; exact hn.1)
  | [], _ :: _, h, _, _ => h.elim
  | _ :: _, [], h, _, _ => h.elim
theorem RowsAt.snoc {K : PySem.W.Frag} {G : Rg} {H : Hp} {z : Addr × List V} {ds : List PyData} (hz : DnA K G H z.2 ds) : ∀ {l : List (Addr × List V)} {dss : List (List PyData)}, RowsAt K G H l dss → RowsAt K G H (l ++ [z]) (dss ++ [ds])
  | [], [], _ => ⟨hz, trivial⟩
  | _ :: _, _ :: _, h => ⟨h.1, RowsAt.snoc hz h.2⟩
  | [], _ :: _, h => h.elim
  | _ :: _, [], h => h.elim
section
variable {X : Cx} {W : WX} {sc : Scope} {N : List Str} {Γ : List Sl} {tg iter elt : Expr} {scope : Scope} {own : List (Str × Nat)} {pos : Pos} {it : DI} {g : DG} {e : DN} {ts : List Nat}
theorem comp_rdT (hts : ∀ j ∈ ts, j ∈ own.map (·.2)) {σ : St} {H : Hp} {Q : VK} (h : rdC X W Γ (cCompT (own.map (·.2)) g it e Γ) σ H Q) :
    tLc (rdIU X W Γ (it Γ)) (fun v σ H Q => ∃ G Γ fr d Γ', Sta X.K G H σ Γ ∧ Dn X.K (rg G fr) H v d ∧ g fr d Γ = some Γ' ∧ ∀ σ', σ'.length = σ.length → (∀ j, j ∉ ts → σ'[j]? = σ[j]?) → Sta X.K G H σ' Γ' → Q σ' H)
      (fun σ H Q => ∃ Γ1, rdT X WF Γ1 (PD.tYes Γ1) Prod.fst Prod.snd σ H Q) (fun σ H Q => ∃ Γ1, rdF X WF Γ1 (e Γ1) Prod.fst Prod.snd σ H Q) (own.map (·.2)) σ H Q := by
  obtain ⟨G, S0, p⟩ := h
  refine ⟨G, S0, (Pst.bind p).imp fun r G1 H1 e1 p1 J S1 I D hD => ?_⟩
  generalize hvs : own.map (·.2) = vs at *
  obtain ⟨⟨items, fr⟩, Γ1⟩ := r
  obtain ⟨hsz, p1⟩ := Pst.req p1
  simp only at hsz p1 I S1
  have hsz : items.length ≤ sizeLine := of_decide_eq_true hsz
  have fresh : ∀ {q : Addr}, H1 q = none → G1.E q = none ∧ ∀ j, G1.I j ≠ some (.ref q) := fun {q} hq => by
    have hE : G1.E q = none := by
      cases z : G1.E q with
      | none => rfl
      | some u => rw [(S1.w.ex q u z).1] at hq; cases hq
    refine ⟨hE, fun j h => ?_⟩
    rcases S1.w.iv j q h with z | z | ⟨xs, z⟩
    · exact S1.w.pal q z hq
    · exact z hE
    · rw [hq] at z; cases z
  obtain ⟨hE0, hID⟩ := fresh hD
  have hww : L2.wipe (L2.wipe σ vs) vs = L2.wipe σ vs := wipe_eq (ts := vs) (wipe_length ..) (fun j hj => wipe_out hj) (fun j hj => hj)
  have nol : ∀ vs' : List V, (∀ xs, HO.lst vs' ≠ .tup xs) ∧ ∀ x y, HO.lst vs' ≠ .frz x y := fun vs' => ⟨fun _ z => (by cases z), fun _ _ z => (by cases z)⟩
  let body : Nat → Hp → Prop := fun i H2 => i ≤ items.length ∧ ∃ (G2 : Gh) (s0 : List Sl) (l : List (Addr × List V)) (dss : List (List PyData)), Sta X.K G2 H2 (L2.wipe σ vs) (wipeG s0 vs) ∧ Le G1 H1 G2 H2 ∧ G2.E = upd (pinE G1.E l) D (.lst (l.reverse.map fun z => V.ref z.1)) ∧ G2.I = G1.I ∧ RowsAt X.K (rg G2 true) H2 l.reverse dss ∧ l.length = i ∧ (l.map (·.1)).Nodup ∧ (∀ z ∈ l, z.1 ≠ D ∧ G1.E z.1 = none ∧ ∀ j, G1.I j ≠ some (.ref z.1)) ∧
    compT vs g fr e items (wipeG Γ1 vs) = (compT vs g fr e (items.drop i) (wipeG s0 vs)).bind fun z => .val (dss ++ z.1, z.2)
  refine ⟨fun i m H2 => m = items.length - i ∧ body i H2, ⟨_, rfl, Nat.zero_le _, ?_⟩, ?_⟩
  · have Sw : Sta X.K G1 H1 (L2.wipe σ vs) (wipeG Γ1 vs) := S1.wipeS vs
    obtain ⟨S2, t2⟩ := Sw.pin (o := .lst []) hD
    refine ⟨_, Γ1, [], [], S2, ⟨rfl, rfl, fun _ _ h => h, fun _ _ h => .inl h, t2, S2.w, fun a o h => by show upd G1.E D _ a = _; rw [upd_ne (fun z => by rw [z, hE0] at h; cases h)]; exact h⟩, rfl, rfl, trivial, rfl, List.Pairwise.nil, (fun z hz => by cases hz), ?_⟩
    rw [List.drop_zero]
    have : (fun z : List (List PyData) × List Sl => R.val ([] ++ z.1, z.2)) = fun z => R.val z := rfl
    rw [this, R.bind_val]
  · rintro i m H2 ⟨rfl, hile, G2, s0, l, dss, S2, l2, hE2, hI2, d2, hll, hnd, hfr, eq⟩
    by_cases hlt : i < items.length
    · rw [List.drop_eq_getElem_cons hlt, compT_cons, R.bind_assoc] at eq
      cases hg : g fr items[i] (wipeG s0 vs) with
      | none => rw [hg] at eq; rw [eq] at p1; exact p1.elim
      | some Γ3 =>
      rw [hg] at eq
      have eq : compT vs g fr e items (wipeG Γ1 vs) = ((e Γ3).nox.bind fun y => (compT vs g fr e (items.drop (i + 1)) (wipeG y.2 vs)).bind fun r => .val (y.1 :: r.1, r.2)).bind fun z => .val (dss ++ z.1, z.2) := eq
      rw [R.bind_assoc] at eq
      refine .inr ⟨I.go i G2 H2 hlt l2, body (i + 1), fun H' hb => ⟨_, (by omega), rfl, hb⟩, fun v H3 y => ?_⟩
      obtain ⟨G3, d, hd, e3, S3, dn⟩ := I.yl i G2 H2 _ _ v H3 hlt l2 S2 y
      have hx : d = items[i] := by
        rw [List.getElem?_eq_getElem hlt] at hd
        exact (Option.some.inj hd).symm
      subst hx
      refine ⟨G3, wipeG s0 vs, fr, items[i], Γ3, S3, dn, hg, fun σ2 l3 k3 S4 => ⟨(wipe_eq l3 k3 hts).trans hww, Γ3, G3, S4, ?_⟩⟩
      have hw2 : L2.wipe σ2 vs = L2.wipe σ vs := (wipe_eq l3 k3 hts).trans hww
      intro G4 H4 e4 S5
      refine itT ⟨Γ3, G4, S5, ?_⟩
      have l4 : Le G1 H1 G4 H4 := (l2.tr e3.le).tr e4.le
      have hE4 : G4.E = upd (pinE G1.E l) D (.lst (l.reverse.map fun z => V.ref z.1)) := e4.e.trans (e3.e.trans hE2)
      have hI4 : G4.I = G1.I := e4.i.trans (e3.i.trans hI2)
      cases hte : e Γ3 with
      | bad => rw [hte] at eq; rw [eq] at p1; exact p1.elim
      | exc z => rw [hte] at eq; rw [eq] at p1; exact p1.elim
      | val z =>
        rw [hte] at eq
        obtain ⟨ds, Γ5⟩ := z
        have eq : compT vs g fr e items (wipeG Γ1 vs) = ((compT vs g fr e (items.drop (i + 1)) (wipeG Γ5 vs)).bind fun r => .val (ds :: r.1, r.2)).bind fun z => .val (dss ++ z.1, z.2) := eq
        intro G5 H5 e5 q wv S6 hq dy
        have l5 := l4.tr e5.le
        have hE5 : G5.E = upd (pinE G1.E l) D (.lst (l.reverse.map fun z => V.ref z.1)) := e5.e.trans hE4
        have hI5 : G5.I = G1.I := e5.i.trans hI4
        have hD5 : H5 D = some (.lst (l.reverse.map fun z => V.ref z.1)) := (S6.w.ex D _ (by rw [hE5, upd_same])).1
        have hqD : q ≠ D := fun z => by rw [z, hD5] at hq; cases hq
        have hql : q ∉ l.map (·.1) := fun hm => by
          obtain ⟨z, hz, e'⟩ := List.mem_map.mp hm
          have h7 : G5.E z.1 = some (.lst z.2) := by
            rw [hE5, upd_ne (hfr z hz).1]
            exact pinE_in hnd hz
          have := (S6.w.ex z.1 _ h7).1
          rw [e', hq] at this
          cases this
        have hqE : G1.E q = none := by
          cases z : G1.E q with
          | none => rfl
          | some u =>
            have h7 : G5.E q = some u := by rw [hE5, upd_ne hqD, pinE_out hql]; exact z
            have := (S6.w.ex q u h7).1
            rw [hq] at this; cases this
        have hqI : ∀ j, G1.I j ≠ some (.ref q) := fun j h => by
          rcases S6.w.iv j q (by rw [hI5]; exact h) with z | z | ⟨xs, z⟩
          · exact S6.w.pal q z hq
          · exact z (by rw [hE5, upd_ne hqD, pinE_out hql]; exact hqE)
          · rw [hq] at z; cases z
        have hDl : D ∉ l.map (·.1) := fun hm => by
          obtain ⟨z, hz, e'⟩ := List.mem_map.mp hm
          exact (hfr z hz).1 e'
        have hp0 : pinE G1.E l D = none := by rw [pinE_out hDl]; exact hE0
        obtain ⟨S7, hHD, t7⟩ := (S6.wipeS vs).unpin hE5 hp0 (nol _).1 (nol _).2 (fun j => by rw [hI5]; exact hID j)
        have hq7 : PD.del H5 D q = none := by rw [del_ne hqD]; exact hq
        obtain ⟨S8, t8⟩ := S7.pin (o := .lst wv) hq7
        have hD8 : upd (PD.del H5 D) q (.lst wv) D = none := by rw [upd_ne (Ne.symm hqD)]; exact del_same
        obtain ⟨S9, t9⟩ := S8.pin (o := .lst (l.reverse.map (fun z => V.ref z.1) ++ [.ref q])) hD8
        have hH : upd (upd (PD.del H5 D) q (.lst wv)) D (.lst (l.reverse.map (fun z => V.ref z.1) ++ [.ref q])) = upd (upd H5 q (.lst wv)) D (.lst (l.reverse.map (fun z => V.ref z.1) ++ [.ref q])) := by
          funext b
          by_cases z : b = D
          · subst z; rw [upd_same, upd_same]
          · rw [upd_ne z, upd_ne z]
            by_cases z2 : b = q
            · subst z2; rw [upd_same, upd_same]
            · rw [upd_ne z2, upd_ne z2, del_ne z]
        rw [hH] at S9 t9
        have tt : TupLe H5 (upd (upd H5 q (.lst wv)) D (.lst (l.reverse.map (fun z => V.ref z.1) ++ [.ref q]))) := t7.tr (t8.tr t9)
        have hlen : (l.reverse.map (fun z => V.ref z.1)).length = i := by rw [List.length_map, List.length_reverse, hll]
        refine ⟨l.reverse.map (fun z => V.ref z.1), by rw [upd_ne (Ne.symm hqD)]; exact hD5, by omega, ?_⟩
        have hrev : ((q, wv) :: l).reverse = l.reverse ++ [(q, wv)] := List.reverse_cons
        refine ⟨hlt, ⟨G5.H0, G5.P, G5.I, G5.N, upd (upd (pinE G1.E l) q (.lst wv)) D (.lst (l.reverse.map (fun z => V.ref z.1) ++ [.ref q]))⟩, Γ5, (q, wv) :: l, dss ++ [ds], ?_, ⟨l5.h0, l5.p, l5.n, l5.nn, l5.t.tr tt, S9.w, fun a o h => ?_⟩, ?_, hI5, ?_, by simp [hll], List.nodup_cons.mpr ⟨hql, hnd⟩, ?_, ?_⟩
        · rw [← hw2]
          exact S9
        · have h1 : a ≠ D := fun z => by rw [z, hE0] at h; cases h
          have h2 : a ≠ q := fun z => by rw [z, hqE] at h; cases h
          have h3 : a ∉ l.map (·.1) := fun hm => by
            obtain ⟨z, hz, e'⟩ := List.mem_map.mp hm
            rw [← e', (hfr z hz).2.1] at h
            cases h
          show upd (upd (pinE G1.E l) q _) D _ a = _
          rw [upd_ne h1, upd_ne h2, pinE_out h3]
          exact h
        · show upd (upd (pinE G1.E l) q _) D _ = upd (upd (pinE G1.E l) q _) D _
          rw [hrev, List.map_append]; rfl
        · rw [hrev]
          have dd : RowsAt X.K (rg G5 true) H5 l.reverse dss := RowsAt.mono (e5.rgl true) e5.t (RowsAt.mono (e4.rgl true) e4.t (RowsAt.mono (e3.rgl true) e3.t d2))
          exact RowsAt.snoc (dy.mono (fun _ _ h => h) tt) (dd.mono (fun _ _ h => h) tt)
        · intro z hz
          rcases List.mem_cons.mp hz with rfl | hz
          · exact ⟨hqD, hqE, hqI⟩
          · exact hfr z hz
        · rw [eq, R.bind_assoc]
          congr 1
          funext q
          show R.val (dss ++ ds :: q.1, q.2) = R.val (dss ++ [ds] ++ q.1, q.2)
          rw [List.append_assoc]
          rfl
    · have ei : i = items.length := by omega
      subst ei
      refine .inl ⟨I.st G2 H2 l2, ?_⟩
      rw [List.drop_length] at eq
      have eq : compT vs g fr e items (wipeG Γ1 vs) = .val (dss ++ [], wipeG s0 vs) := eq
      rw [List.append_nil] at eq
      rw [eq] at p1
      have hDl : D ∉ l.map (·.1) := fun hm => by
        obtain ⟨z, hz, e'⟩ := List.mem_map.mp hm
        exact (hfr z hz).1 e'
      have hp0 : pinE G1.E l D = none := by rw [pinE_out hDl]; exact hE0
      obtain ⟨S7, hHD, t7⟩ := S2.unpin hE2 hp0 (nol _).1 (nol _).2 (fun j => by rw [hI2]; exact hID j)
      obtain ⟨S8, t8, k8⟩ := S7.unpinL (l := l) (I := G1.I) rfl hI2 hnd fun z hz => (hfr z hz).2
      have hnr : (l.reverse.map (·.1)).Nodup := by rw [List.map_reverse]; exact (List.reverse_perm _).nodup_iff.mpr hnd
      have kk : ∀ z ∈ l, H2 z.1 = some (.lst z.2) := fun z hz => by
        have := k8 z hz
        rwa [del_ne (hfr z hz).1] at this
      have T : TresOk X.K (rg G2 true) H2 (l.reverse.map fun z => V.ref z.1) (l.reverse.map (·.1)) (dss.map fun ds => .lst (ds.map Tre.d)) := RowsAt.tres d2 hnr fun z hz => kk z (List.mem_reverse.mp hz)
      have T2 : TresOk X.K (rg (⟨G2.H0, G2.P, G2.I, G2.N, G1.E⟩ : Gh) true) H2 (l.reverse.map fun z => V.ref z.1) (l.reverse.map (·.1)) (dss.map fun ds => .lst (ds.map Tre.d)) := TresOk.mono (G := rg G2 true) (fun _ _ z => z) (TupLe.rf _) T fun _ _ => rfl
      have mem : ∀ {a}, a ∈ l.reverse.map (·.1) ↔ a ∈ l.map (·.1) := fun {a} => by rw [List.map_reverse, List.mem_reverse]
      refine p1 ⟨G2.H0, G2.P, G2.I, G2.N, G1.E⟩ (delL (PD.del H2 D) l) ⟨l2.h0, l2.p, hI2, rfl, l2.n, l2.nn, (l2.t.tr t7).tr t8, S8.w⟩ (.ref D) H2 (S8.swap (wipe_length ..).symm fun j => ?_) ⟨D :: l.reverse.map (·.1), fun a ha => ?_, fun a ha => ?_, .lst hHD T2 (fun h => hDl (mem.mp h)), D, rfl, .inl (by simp)⟩
      · have hlen : ∀ ws : List Nat, (wipeG s0 ws).length = s0.length := fun ws => by
          induction ws with
          | nil => rfl
          | cons w ws ih => simp [wipeG, ih]
        by_cases hj : j ∈ vs
        · by_cases hjl : j < s0.length
          · exact .inr (wipeG_at hj hjl)
          · left
            obtain ⟨A7, Z7⟩ := S8
            have : s0.length = σ.length := by rw [← hlen vs, Z7.len, wipe_length]
            rw [List.getElem?_eq_none (by omega), List.getElem?_eq_none (by rw [wipe_length]; omega)]
        · exact .inl (wipe_out hj).symm
      · have h1 : a ≠ D := fun z => ha (by simp [z])
        have h2 : a ∉ l.map (·.1) := fun h => ha (List.mem_cons_of_mem _ (mem.mpr h))
        rw [delL_out h2, del_ne h1]
      · rcases List.mem_cons.mp ha with rfl | ha
        · exact ⟨by rw [delL_out hDl]; exact del_same, by rw [hHD]; simp⟩
        · have ha := mem.mp ha
          obtain ⟨z, hz, rfl⟩ := List.mem_map.mp ha
          exact ⟨delL_in ha, by rw [kk z hz]; simp⟩
end
end PD
set_option Elab.async false
set_option linter.all false
set_option maxRecDepth 100000
set_option maxHeartbeats 4000000
set_option autoImplicit false
namespace PD
open PySem L2
section
variable {X : Cx} {W : WX} {sc : Scope} {N : List Str} {tg iter elt a b e : Expr} {scope : Scope} {own : List (Str × Nat)} {pos apos cpos p p2 : Pos} {it : DI} {g : DG} {f : DF} {x y : Str} {ts : List Nat}
structure CompT (X : Cx) (W : WX) (sc : Scope) (N : List Str) (tg iter elt : Expr) (scope : Scope) (own : List (Str × Nat)) (ts : List Nat) (g : DG) (it : DI) (e : DN) : Prop where
  hin : CI X W tg iter it
  ok : blkC N sc scope own = true
  hg : ∀ (s : Shared) (H : Hp) (c : Addr) (cl : List (Str × Addr)) (fp : List Addr), CG (X.blk s H scope (compEnvC scope cl c X.env) fp) tg ts g
  he : ∀ (s : Shared) (H : Hp) (c : Addr) (cl : List (Str × Addr)) (fp : List Addr), CN (X.blk s H scope (compEnvC scope cl c X.env) fp) WF elt e
  hts : ∀ j ∈ ts, j ∈ own.map (·.2)
  hs : ∀ x, foldedSetIterable iter X.env x = pure x
end
end PD
set_option Elab.async false
set_option linter.all false
set_option maxRecDepth 100000
set_option maxHeartbeats 4000000
set_option autoImplicit false
namespace PD
open PySem L2
section
variable {X : Cx} {W : WX} {sc : Scope} {N : List Str} {x y : Str}
end
end PD
set_option Elab.async false
set_option linter.all false
set_option maxRecDepth 100000
set_option maxHeartbeats 4000000
set_option autoImplicit false
namespace MinD
open PySem PySem.W PySem.Calls PyProof.Rows
section
variable {prog : Program} {w : World} {A : Around} {R : Result → Shared → Prop} {it B : Addr} {ft wt : List Addr} {len : Nat} {Pv : Nat → Value → Prop} {Tn : Nat → Heap → Prop} {kw : List (Str × Value)}
abbrev two (v : Value) (c : Nat) : Obj := { cls := .type "list", dict := none, data := .seq #[v, v] c, slots := #[] }
theorem nm : (toString "min" ++ toString ".loop" : String) = "min.loop" := by decide
theorem turns (K : Walks prog w A.in1 it ft wt len Pv Tn) (lt : Nat → Nat → Bool) (cmp : CmpOf prog w A.in1 .Lt Pv lt) (nb : B ∉ ft) (m : Nat) :
    ∀ (j : Nat) (s : Shared) (v : Value) (c : Nat), len - (j + 1) = m → j + 1 ≤ len → Tn (j + 1) s.heap → Pv (argBest lt j) v → s.heap.get? B = some (two v c) →
      (∀ u h' tk, Pv (argBest lt (len - 1)) u → (∀ b o, b ∉ wt → b ≠ B → s.heap.get? b = some o → h'.get? b = some o) → R (.ok (.ret u)) { s with heap := h', toks := tk }) → codeAny (model prog w) A (.builtin "min.loop" ⟨[.ref it, .none, .ref B], kw⟩) R s := by
  have nw : B ∉ wt := fun z => nb (K.sub _ z)
  induction m with
  | zero =>
    intro j s v c e1 e2 tn pv hb fin
    obtain rfl : j + 1 = len := by omega
    refine codeAny_builtin F.entry_min_loop ?_; rw [Around.under_plainId F.plain_min_loop _]
    refine wpAny_bind (m := seqItems? (.ref B)) (wpAny_seqItems hb rfl ?_)
    refine wpAny_bind (wpAny_tryCatch (K.done s _ _ tn fun g tk keep => ?_))
    have hb' := keep B _ nw hb
    refine wpAny_bind (m := updateSeq B (fun _ => #[])) (wpAny_updateSeq hb' rfl (wpAny_bind (wpAny_letGo (wpAny_pure ?_))))
    exact fin v _ tk pv fun b o x y z => (Heap.get?_update_other _ _ (Ne.symm y)).trans (keep b o x z)
  | succ m ih =>
    intro j s v c e1 e2 tn pv hb fin
    have lt1 : j + 1 < len := by omega
    refine codeAny_builtin F.entry_min_loop ?_; rw [Around.under_plainId F.plain_min_loop _]
    refine wpAny_bind (m := seqItems? (.ref B)) (wpAny_seqItems hb rfl ?_)
    refine wpAny_bind (wpAny_tryCatch (K.item (j + 1) s _ _ lt1 tn fun u g tk pu tn' keep => ?_))
    have hb' := keep B _ nw hb
    refine wpAny_bind (m := tryCatch (holding [u, u] (richCompare .Lt u v >>= _)) _) (wpAny_tryCatch (wpAny_holding (wpAny_bind (cmp (j + 1) (argBest lt j) u v _ _ _ pu pv ?_))))
    refine wpAny_bind (wpAny_holding (wpAny_truthy_bool (wpAny_bind (wpAny_letGo (wpAny_pure ?_)))))
    cases z : lt (j + 1) (argBest lt j) with
    | false =>
      simp only [Bool.false_eq_true, if_false]
      refine wpAny_bind (wpAny_letGo ?_); rw [nm]
      refine wpAny_pure ⟨plainId_quiet F.plain_min_loop _, ih (j + 1) _ v c (by omega) lt1 tn' (by simp only [argBest, z, Bool.false_eq_true, if_false]; exact pv) hb' fun u' h2 tk2 pu' keep2 => fin u' h2 tk2 pu' fun b o x y q => keep2 b o x y (keep b o x q)⟩
    | true =>
      simp only [if_true]
      refine wpAny_bind (wpAny_updateSeq hb' rfl (wpAny_bind (wpAny_letGo ?_))); rw [nm]
      refine wpAny_pure ⟨plainId_quiet F.plain_min_loop _, ih (j + 1) _ u _ (by omega) lt1 (K.frame _ _ _ tn' fun b x o e => (Heap.get?_update_other _ _ (fun h : B = b => nb (by rw [h]; exact x))).trans e) (by simp only [argBest, z, if_true]; exact pu) (Heap.get?_update_self _ hb' rfl) fun u' h2 tk2 pu' keep2 => ?_⟩
      exact fin u' h2 tk2 pu' fun b o x y q => keep2 b o x y ((Heap.get?_update_other _ _ (Ne.symm y)).trans (keep b o x q))
theorem start (K : Walks prog w A.in1 it ft wt len Pv Tn) (lt : Nat → Nat → Bool) (cmp : CmpOf prog w A.in1 .Lt Pv lt) (nb : B ∉ ft) {d : Value} {nme : Str} {s : Shared} {c : Nat} (tn : Tn 0 s.heap) (hb : s.heap.get? B = some { cls := .type "list", dict := none, data := .seq #[] c, slots := #[] })
    (fin0 : len = 0 → ∀ h' tk, (∀ b o, b ∉ wt → b ≠ B → s.heap.get? b = some o → h'.get? b = some o) → R (.ok (.ret d)) { s with heap := h', toks := tk })
    (fin : 0 < len → ∀ u h' tk, Pv (argBest lt (len - 1)) u → (∀ b o, b ∉ wt → b ≠ B → s.heap.get? b = some o → h'.get? b = some o) → R (.ok (.ret u)) { s with heap := h', toks := tk }) : codeAny (model prog w) A (.builtin "min.loop" ⟨[.ref it, .none, .ref B], [(nme, d)]⟩) R s := by
  have nw : B ∉ wt := fun z => nb (K.sub _ z)
  refine codeAny_builtin F.entry_min_loop ?_; rw [Around.under_plainId F.plain_min_loop _]
  refine wpAny_bind (m := seqItems? (.ref B)) (wpAny_seqItems hb rfl ?_)
  by_cases h0 : len = 0
  · subst h0
    refine wpAny_bind (wpAny_tryCatch (K.done s _ _ tn fun g tk keep => ?_))
    refine wpAny_bind (wpAny_rule ?_)
    exact wpAny_pure (fin0 rfl g tk fun b o x _ z => keep b o x z)
  · refine wpAny_bind (wpAny_tryCatch (K.item 0 s _ _ (by omega) tn fun u g tk pu tn' keep => ?_))
    have hb' := keep B _ nw hb
    refine wpAny_bind (m := updateSeq B (fun _ => #[u, u])) (wpAny_updateSeq hb' rfl ?_); rw [nm]
    refine wpAny_pure ⟨plainId_quiet F.plain_min_loop _, turns K lt cmp nb _ 0 _ u _ rfl (by omega) (K.frame _ _ _ tn' fun b x o e => (Heap.get?_update_other _ _ (fun h : B = b => nb (by rw [h]; exact x))).trans e) pu (Heap.get?_update_self _ hb' rfl) fun u' h2 tk2 pu' keep2 => ?_⟩
    exact fin (by omega) u' h2 tk2 pu' fun b o x y q => keep2 b o x y ((Heap.get?_update_other _ _ (Ne.symm y)).trans (keep b o x q))
end
section
variable {prog : Program} {w : World} {A : Around} {E : Value → Shared → Prop} {s : Shared} {l : Addr} {xs : Array (Int × Tok)}
end
end MinD
namespace PD
open PySem L2 PySem.W PySem.Calls
open PyProof.Rows hiding St
section
variable {X : Cx} {W : WX} {sc : Scope} {N : List Str} {e e2 : Expr} {p pos kpos : Pos} {f g : DF}
end
end PD
set_option Elab.async false
set_option linter.all false
set_option maxRecDepth 100000
set_option maxHeartbeats 4000000
set_option autoImplicit false
namespace PD
open PySem L2
abbrev DL := List Sl → R (List AV × Cl × List Sl)
section
variable {X : Cx} {W : WX} {sc : Scope} {N : List Str} {e : Expr} {es : List Expr} {f : DF} {k : DL} {n0 : DC}
end
section
variable {X : Cx} {W : WX} {sc : Scope} {N : List Str} {e : Expr} {es : List Expr} {x : Str} {p pos : Pos} {m : List Ar → R (Rs × List Sl)} {k : DL}
end
end PD
set_option Elab.async false
set_option linter.all false
set_option maxRecDepth 100000
set_option maxHeartbeats 4000000
set_option autoImplicit false
namespace PD
open PySem L2
inductive Atm where
  | v (i : Nat)
  | h (j c : Nat)
def AtV (σ : St) (H : Hp) : Atm → V → Prop
  | .v i, v => σ[i]? = some (some v)
  | .h j c, v => ∃ p ws, σ[j]? = some (some (.ref p)) ∧ H p = some (.lst ws) ∧ ws[c]? = some v
inductive AtVs (σ : St) (H : Hp) : List Atm → List V → Prop
  | nil : AtVs σ H [] []
  | cons {a : Atm} {as : List Atm} {v : V} {vs : List V} : AtV σ H a v → AtVs σ H as vs → AtVs σ H (a :: as) (v :: vs)
section
variable {X : Cx} {W : WX} {sc : Scope} {N : List Str} {e : Expr} {es : List Expr} {as : List Atm} {x : Str} {p p2 cp pos : Pos}
end
theorem TresOk.at {K : PySem.W.Frag} {G : Rg} {H : Hp} : ∀ {ws : List V} {fp : List Addr} {ts : List Tre} {c : Nat} {t : Tre}, TresOk K G H ws fp ts → ts[c]? = some t → ∃ v f, ws[c]? = some v ∧ TreOk K G H v f t
  | _, _, _, c, t, .nil, e => by simp at e
  | _, _, _, 0, t, .cons h a n, e => by simp at e; subst e; exact ⟨_, _, rfl, h⟩
  | _, _, _, c + 1, t, .cons h a n, e => by
    obtain ⟨v, f, h1, h2⟩ := TresOk.at (c := c) a (by simpa using e)
    exact ⟨v, f, by simpa using h1, h2⟩
section
variable {X : Cx} {W : WX} {sc : Scope} {N : List Str} {e : Expr} {es : List Expr} {as : List Atm} {x : Str} {p pos : Pos} {m : List Ar → R (Rs × List Sl)}
end
end PD
set_option Elab.async false
set_option linter.all false
set_option maxRecDepth 100000
set_option maxHeartbeats 4000000
set_option autoImplicit false
namespace PD
open PySem L2
section
variable {X : Cx} {W : WX} {sc : Scope} {N : List Str} {e e1 : Expr} {x : Str} {p p2 cp cp2 pos tpos apos cpos : Pos} {f : DF} {n : DN}
end
end PD
set_option Elab.async false
set_option linter.all false
set_option maxRecDepth 100000
set_option maxHeartbeats 4000000
set_option autoImplicit false
namespace PD
open PySem L2
section
variable {X : Cx} {W : WX} {sc : Scope} {N : List Str} {e : Expr} {x : Str} {p p2 ipos cp cp2 pos tpos apos cpos : Pos} {f : DF}
end
end PD
set_option Elab.async false
set_option linter.all false
set_option maxRecDepth 100000
set_option maxHeartbeats 4000000
set_option autoImplicit false
namespace PD
open PySem L2
theorem AtVs.heap {σ : St} {H H2 : Hp} : ∀ {is : List Nat} {vs : List V}, AtVs σ H (is.map Atm.v) vs → AtVs σ H2 (is.map Atm.v) vs
  | [], _, .nil => .nil
  | _ :: _, _, .cons h k => .cons h (AtVs.heap k)
section
variable {X : Cx} {W : WX} {sc : Scope} {N : List Str} {e : Expr} {es : List Expr} {is : List Nat} {x : Str} {p pos : Pos} {m : List Ar → R (Rs × List Sl)} {n0 : DC}
end
end PD
set_option Elab.async false
set_option linter.all false
set_option maxRecDepth 100000
set_option maxHeartbeats 4000000
set_option autoImplicit false
namespace PD
open PySem L2
end PD
set_option Elab.async false
set_option linter.all false
set_option maxRecDepth 100000
set_option maxHeartbeats 4000000
set_option autoImplicit false
namespace PD
open PySem L2
section
variable {X : Cx} {Γ : List Sl} {m : List Ar → R (Rs × List Sl)} {r j : Nat} {ms : List Bool} {as : List Atm} {E : St → XK}
end
end PD
set_option Elab.async false
set_option linter.all false
set_option maxRecDepth 100000
set_option maxHeartbeats 4000000
set_option autoImplicit false
namespace PD
open PySem L2
end PD
set_option Elab.async false
set_option linter.all false
set_option maxRecDepth 100000
set_option maxHeartbeats 4000000
set_option autoImplicit false
namespace PD
open PySem L2
section
variable {X : Cx} {W : WX} {sc : Scope} {N : List Str} {x y z n : Str} {m : List Ar → R (Rs × List Sl)} {r j i mk : Nat} {ms : List Bool} {as : List Atm} {cond : Expr} {scope : Scope} {own : List (Str × Nat)} {ss : List Stmt} {b : DS}
end
end PD
set_option Elab.async false
set_option linter.all false
set_option maxRecDepth 100000
set_option maxHeartbeats 4000000
set_option autoImplicit false
namespace PD
open PySem L2
section
variable {X : Cx} {W : WX} {sc : Scope} {N : List Str} {e : Expr} {es : List Expr} {as : List Atm} {x : Str} {p pos : Pos} {m : List Ar → R (Rs × List Sl)}
end
end PD
set_option Elab.async false
set_option linter.all false
set_option maxRecDepth 100000
set_option maxHeartbeats 4000000
set_option autoImplicit false
namespace PD
open PySem L2
abbrev Pr := PyData × List PyData
abbrev DP := List Sl → R (Pr × List Sl)
def prT (z : Pr) : Tre := .lst [.d z.1, .lst (z.2.map Tre.d)]
def rdP (X : Cx) (W : WX) (Γ : List Sl) (m : R (Pr × List Sl)) : TE := fun σ H Q => ∃ G, Sta X.K G H σ Γ ∧ Pst X W G H σ m fun r G' H' => ∀ q a v1 vs, Sta X.K G' H' σ r.2 → H' a = none → H' q = none → q ≠ a → Dn X.K (rg G' true) H' v1 r.1.1 → DnA X.K (rg G' true) H' vs r.1.2 → Q (.ref q) (upd (upd H' a (.lst vs)) q (.lst [v1, .ref a]))
def CP (X : Cx) (W : WX) (e : Expr) (f : DP) : Prop := ∀ Γ, PE X e (rdP X W Γ (f Γ))
section
variable {X : Cx} {W : WX} {sc : Scope} {N : List Str} {a b : Expr} {pos : Pos} {f : DF} {n : DC}
end
abbrev Pl4 := Addr × V × Addr × List V
def RowsP (K : PySem.W.Frag) (G : Rg) (H : Hp) : List Pl4 → List Pr → Prop
  | [], [] => True
  | z :: l, y :: ys => (Dn K G H z.2.1 y.1 ∧ DnA K G H z.2.2.2 y.2) ∧ RowsP K G H l ys
  | _, _ => False
theorem RowsP.mono {K : PySem.W.Frag} {G G' : Rg} {H H' : Hp} (g : RgLe G G') (t : TupLe H H') : ∀ {l : List Pl4} {ys : List Pr}, RowsP K G H l ys → RowsP K G' H' l ys
  | [], [], _ => trivial
  | _ :: _, _ :: _, h => ⟨⟨h.1.1.mono g t, h.1.2.mono g t⟩, RowsP.mono g t h.2⟩
  | [], _ :: _, h => h.elim
  | _ :: _, [], h => h.elim
theorem RowsP.snoc {K : PySem.W.Frag} {G : Rg} {H : Hp} {z : Pl4} {y : Pr} (h1 : Dn K G H z.2.1 y.1) (h2 : DnA K G H z.2.2.2 y.2) : ∀ {l : List Pl4} {ys : List Pr}, RowsP K G H l ys → RowsP K G H (l ++ [z]) (ys ++ [y])
  | [], [], _ => ⟨⟨h1, h2⟩, trivial⟩
  | _ :: _, _ :: _, h => ⟨h.1, RowsP.snoc h1 h2 h.2⟩
  | [], _ :: _, h => h.elim
  | _ :: _, [], h => h.elim
def adP : List Pl4 → List Addr
  | [] => []
  | z :: l => z.1 :: z.2.2.1 :: adP l
theorem RowsP.tres {K : PySem.W.Frag} {G : Rg} {H : Hp} : ∀ {l : List Pl4} {ys : List Pr}, RowsP K G H l ys → (adP l).Nodup → (∀ z ∈ l, H z.1 = some (.lst [z.2.1, .ref z.2.2.1]) ∧ H z.2.2.1 = some (.lst z.2.2.2)) → TresOk K G H (l.map fun z => V.ref z.1) (adP l) (ys.map prT)
  | [], [], _, _, _ => .nil
  | z :: l, y :: ys, h, hn, hH => by
    have hn : (z.1 :: z.2.2.1 :: adP l).Nodup := hn
    obtain ⟨n1, n2⟩ := List.nodup_cons.mp hn
    obtain ⟨n3, n4⟩ := List.nodup_cons.mp n2
    obtain ⟨q1, q2⟩ := hH z (by simp)
    have hne : z.1 ≠ z.2.2.1 := fun e => n1 (by rw [e]; simp)
    have hrow : TreOk K G H (.ref z.1) (z.1 :: ([] ++ ([z.2.2.1] ++ []))) (prT y) := .lst q1 (.cons (.d h.1.1) (.cons (.lst q2 (tres_dna' h.1.2) (by simp)) .nil (by simp)) (by simp)) (by simpa using hne)
    exact .cons (f1 := [z.1, z.2.2.1]) (f2 := adP l) hrow (RowsP.tres h.2 n4 fun y hy => hH y (by simp [hy])) (fun p hp => by
      simp only [List.mem_cons, List.not_mem_nil, or_false] at hp
      rcases hp with rfl | rfl
      · exact fun hm => n1 (List.mem_cons_of_mem _ hm)
      · exact n3)
  | [], _ :: _, h, _, _ => h.elim
  | _ :: _, [], h, _, _ => h.elim
end PD
set_option Elab.async false
set_option linter.all false
set_option maxRecDepth 100000
set_option maxHeartbeats 4000000
set_option autoImplicit false
namespace PD
open PySem L2
section
variable {X : Cx} {W : WX} {sc : Scope} {N : List Str} {Γ : List Sl} {tg iter elt : Expr} {scope : Scope} {own : List (Str × Nat)} {pos : Pos} {it : DI} {g : DG} {e : DP} {ts : List Nat}
end
end PD
set_option Elab.async false
set_option linter.all false
set_option maxRecDepth 100000
set_option maxHeartbeats 4000000
set_option autoImplicit false
namespace PD
open PySem L2
section
variable {X : Cx} {W : WX} {sc : Scope} {N : List Str} {tg iter elt : Expr} {scope : Scope} {own : List (Str × Nat)} {pos : Pos} {it : DI} {g : DG} {y : Str} {ts : List Nat}
structure CompP (X : Cx) (W : WX) (sc : Scope) (N : List Str) (tg iter elt : Expr) (scope : Scope) (own : List (Str × Nat)) (ts : List Nat) (g : DG) (it : DI) (e : DP) : Prop where
  hin : CI X W tg iter it
  ok : blkC N sc scope own = true
  hg : ∀ (s : Shared) (H : Hp) (c : Addr) (cl : List (Str × Addr)) (fp : List Addr), CG (X.blk s H scope (compEnvC scope cl c X.env) fp) tg ts g
  he : ∀ (s : Shared) (H : Hp) (c : Addr) (cl : List (Str × Addr)) (fp : List Addr), CP (X.blk s H scope (compEnvC scope cl c X.env) fp) WF elt e
  hts : ∀ j ∈ ts, j ∈ own.map (·.2)
  hs : ∀ x, foldedSetIterable iter X.env x = pure x
end
section
variable {K : PySem.W.Frag} {G : Gh} {H : Hp} {σ : St} {Γ : List Sl} {A : Nat → List Addr} {i j : Nat} {ns nn : List (List Itm)} {T : Tre}
end
end PD
set_option Elab.async false
set_option linter.all false
set_option maxRecDepth 100000
set_option maxHeartbeats 4000000
set_option autoImplicit false
namespace PD
open PySem L2
end PD
set_option Elab.async false
set_option linter.all false
set_option maxRecDepth 100000
set_option maxHeartbeats 4000000
set_option autoImplicit false
namespace PD
open PySem L2
section
variable {X : Cx} {W : WX} {sc : Scope} {N : List Str} {x y z : Str} {scope : Scope} {own : List (Str × Nat)}
end
end PD
set_option Elab.async false
set_option linter.all false
set_option maxRecDepth 100000
set_option maxHeartbeats 4000000
set_option autoImplicit false
namespace PD
open PySem L2
end PD
set_option Elab.async false
set_option linter.all false
set_option maxRecDepth 100000
set_option maxHeartbeats 4000000
set_option autoImplicit false
namespace PD
open PySem L2
section
variable {X : Cx} {W : WX} {sc : Scope} {N : List Str} {a b : Expr} {pos : Pos} {f g : DF}
end
end PD
set_option Elab.async false
set_option linter.all false
set_option maxRecDepth 100000
set_option maxHeartbeats 4000000
set_option autoImplicit false
namespace PD
open PySem PySem.Spec L2
open PyProof.Rows hiding St
section
variable {X : Cx} {W : WX} {sc : Scope} {N : List Str} {a b e o : Expr} {f g : DF} {p p2 pos apos cpos : Pos}
end
end PD
set_option Elab.async false
set_option linter.all false
set_option maxRecDepth 100000
set_option maxHeartbeats 4000000
set_option autoImplicit false
namespace PD
open PySem PySem.Spec L2
open PyProof.Rows hiding St
section
variable {X : Cx} {W : WX} {sc : Scope} {N : List Str} {a b e tg : Expr} {f g : DF} {p p2 pos apos : Pos} {k : DA} {x : Str}
end
end PD
set_option Elab.async false
set_option linter.all false
set_option maxRecDepth 100000
set_option maxHeartbeats 4000000
set_option autoImplicit false
namespace PD
open PySem PySem.Spec L2
open PyProof.Rows hiding St
section
variable {prog : Program} {w : World} {A : Around} {R : Result → Shared → Prop} {I : Addr} {fp wr : List Addr} {G : Array GenState → Array GenState → Prop} {P : Nat → Value → Prop} {St : Nat → Shared → Prop}
end
section
variable {prog : Program} {w : World} {A : Around} {E : Value → Shared → Prop} {s : Shared}
end
section
variable {X : Cx} {W : WX} {sc : Scope} {N : List Str} {a e : Expr} {pos p p2 q2 : Pos} {f : DF}
end
end PD
set_option Elab.async false
set_option linter.all false
set_option maxRecDepth 100000
set_option maxHeartbeats 4000000
set_option autoImplicit false
namespace PD
open PySem L2
theorem StaA.steps {K : PySem.W.Frag} {G : Gh} {H H' N' : Hp} {σ : St} {Γ Γ' : List Sl} {A B : Nat → List Addr} {I : List Nat} {b : Bool} {cs : Nat → Cl} (S : StaA K G H σ Γ A)
    (hI : ∀ i ∈ I, ∃ c, Γ[i]? = some (mkS b c)) (k1 : ∀ a o, H a = some o → (∀ i ∈ I, a ∉ A i) → H' a = some o) (k2 : ∀ i ∈ I, ∀ a ∈ A i, H' a ≠ none) (t : TupLe H H') (n : NewIn G.N N' H H')
    (ok : ∀ i ∈ I, ∀ v, σ[i]? = some (some v) → (cs i).ok K (RN N') H' v (B i)) (f : ∀ i ∈ I, ∀ p ∈ B i, H' p ≠ none ∧ N' p = none ∧ ((∃ j ∈ I, p ∈ A j) ∨ H p = none))
    (dj : ∀ i ∈ I, ∀ j ∈ I, ∀ p, p ∈ B i → p ∈ B j → i = j) (hl : Γ'.length = Γ.length) (hi : ∀ i ∈ I, Γ'[i]? = some (mkS b (cs i))) (ho : ∀ i, i ∉ I → Γ'[i]? = Γ[i]?) :
    ∃ G', Sta K G' H' σ Γ' ∧ Ext G H G' H' ∧ RgLe (RN N') (rg G' true) := by
  have mem : ∀ {p : Addr}, p ∈ I.flatMap A ↔ ∃ i ∈ I, p ∈ A i := List.mem_flatMap
  have g : Grow G H (jn G.N N') H' (I.flatMap A) := by
    refine ⟨fun a o h hn => k1 a o h fun i hi hp => hn (mem.mpr ⟨i, hi, hp⟩), fun a ha => ?_, t, fun a o h => jn_left h, fun a o h => ?_⟩
    · obtain ⟨i, hi, hp⟩ := mem.mp ha
      exact k2 i hi a hp
    · rcases jn_cases h with h | ⟨_, h⟩
      · refine ⟨k1 a o (S.w.new a o h).1 fun i hi hp => ?_, .inl h⟩
        rw [(S.al i a hp).2.1] at h; cases h
      · exact ⟨(n a o h).1, (n a o h).2.elim .inr .inl⟩
  have l : RgLe (RN N') (RN (jn G.N N')) := fun a o h => by
    show jn G.N N' a = some o
    cases q : G.N a with
    | none => rw [jn_right q]; exact h
    | some u =>
      rcases (n a o h).2 with z | z
      · have := (S.w.new a u q).1
        rw [z] at this
        cases this
      · exact jn_left z
  have f2 : ∀ i ∈ I, ∀ p ∈ B i, H' p ≠ none ∧ jn G.N N' p = none ∧ ((∃ j ∈ I, p ∈ A j) ∨ H p = none) := fun i hi p hp => by
    obtain ⟨q1, q2, q3⟩ := f i hi p hp
    refine ⟨q1, ?_, q3⟩
    have : G.N p = none := by
      rcases q3 with ⟨j, hj, q3⟩ | q3
      · exact (S.al j p q3).2.1
      · exact (S.w.fresh q3).1
    rw [jn_right this]
    exact q2
  have hf : ∀ p ∈ I.flatMap A, p ∈ G.P ∨ G.H0 p = none := fun p hp => by
    obtain ⟨i, hi, hp⟩ := mem.mp hp
    exact (S.al i p hp).2.2
  have he : ∀ p ∈ I.flatMap A, G.E p = none := fun p hp => by
    obtain ⟨i, hi, hp⟩ := mem.mp hp
    exact S.ae i p hp
  have e := g.ext S.w hf he
  have nf : ∀ j, j ∉ I → ∀ p, p ∈ A j → p ∉ I.flatMap A := fun j hj p hp hq => by
    obtain ⟨i, hi, hq⟩ := mem.mp hq
    exact hj (S.dj j i p hp hq ▸ hi)
  have nI : ∀ j x, Γ'[j]? = some x → x.pl = true → j ∉ I := fun j x hx hp hj => by
    rw [hi j hj] at hx
    cases hx
    cases b <;> cases hp
  refine ⟨_, ⟨fun j => if j ∈ I then B j else A j, e.w, by rw [hl]; exact S.len, fun j s h => ?_, fun j p hp => ?_, fun j p hp => ?_, fun j k p hj hk => ?_, fun a j k ns h1 h2 => ?_⟩, e, l⟩
  · by_cases hj : j ∈ I
    · rw [if_pos hj]
      rw [hi j hj] at h
      cases h
      obtain ⟨c, hc⟩ := hI j hj
      have old := S.sl j _ hc
      cases b with
      | true =>
        obtain ⟨v, h1, h2, h3⟩ := old
        exact ⟨v, h1, h2, Cl.mono (ok j hj v h1) l (fun _ _ => rfl) (TupLe.rf _)⟩
      | false =>
        obtain ⟨v, h1, h2, h3⟩ := old
        refine ⟨v, h1, fun p hp => ?_, Cl.mono (ok j hj v h1) l (fun _ _ => rfl) (TupLe.rf _)⟩
        rcases (f j hj p hp).2.2 with ⟨i, hi2, q⟩ | q
        · obtain ⟨ci, hci⟩ := hI i hi2
          obtain ⟨_, _, h2i, _⟩ := S.sl i _ hci
          exact h2i p q
        · exact (S.w.fresh q).2.1
    · rw [if_neg hj]
      rw [ho j hj] at h
      exact (S.sl j s h).mono e fun a ha => g.at (S.al j a ha).1 (nf j hj a ha)
  · by_cases hj : j ∈ I
    · rw [if_pos hj] at hp
      obtain ⟨h1, h2, h3⟩ := f2 j hj p hp
      refine ⟨h1, h2, ?_⟩
      rcases h3 with ⟨i, _, z⟩ | z
      · exact (S.al i p z).2.2
      · by_cases q : p ∈ G.P
        · exact .inl q
        · refine .inr ?_
          show G.H0 p = none
          cases r : G.H0 p with
          | none => rfl
          | some u => rw [S.w.keep p u r q] at z; cases z
    · rw [if_neg hj] at hp
      obtain ⟨h1, h2, h3⟩ := S.al j p hp
      refine ⟨by rw [g.at h1 (nf j hj p hp)]; exact h1, ?_, h3⟩
      show jn G.N N' p = none
      cases q : jn G.N N' p with
      | none => rfl
      | some o =>
        rcases (g.n' p o q).2 with z | z
        · rw [h2] at z; cases z
        · exact absurd z h1
  · show G.E p = none
    by_cases hj : j ∈ I
    · rw [if_pos hj] at hp
      rcases (f2 j hj p hp).2.2 with ⟨i, _, z⟩ | z
      · exact S.ae i p z
      · cases q : G.E p with
        | none => rfl
        | some o => rw [(S.w.ex p o q).1] at z; cases z
    · rw [if_neg hj] at hp
      exact S.ae j p hp
  · by_cases h1 : j ∈ I
    · by_cases h2 : k ∈ I
      · rw [if_pos h1] at hj
        rw [if_pos h2] at hk
        exact dj j h1 k h2 p hj hk
      · rw [if_pos h1] at hj
        rw [if_neg h2] at hk
        rcases (f2 j h1 p hj).2.2 with ⟨i, hi2, z⟩ | z
        · exact absurd (S.dj i k p z hk ▸ hi2) h2
        · exact absurd z (S.al k p hk).1
    · by_cases h2 : k ∈ I
      · rw [if_neg h1] at hj
        rw [if_pos h2] at hk
        rcases (f2 k h2 p hk).2.2 with ⟨i, hi2, z⟩ | z
        · exact absurd (S.dj i j p z hj ▸ hi2) h1
        · exact absurd z (S.al j p hj).1
      · rw [if_neg h1] at hj
        rw [if_neg h2] at hk
        exact S.dj j k p hj hk
  · have a1 := nI a _ h1 rfl
    have a2 := nI j _ h2 rfl
    rw [ho a a1] at h1
    rw [ho j a2] at h2
    rw [if_neg a2]
    exact S.rf a j k ns h1 h2
end PD
set_option Elab.async false
set_option linter.all false
set_option maxRecDepth 100000
set_option maxHeartbeats 4000000
set_option autoImplicit false
namespace PD
open PySem L2
def slotC (cs : List Bool) (as : List AV) (i : Nat) : Option Nat := match as[i]? with
  | some (.s j) => if cs.getD i false then some j else none
  | _ => none
def prsC (cs : List Bool) (as : List AV) : List (Nat × Nat) := (List.range as.length).filterMap fun i => (slotC cs as i).map fun j => (i, j)
theorem getD_tail (cs : List Bool) (i : Nat) : cs.getD (i + 1) false = cs.tail.getD i false := by cases cs <;> rfl
theorem getD_head (cs : List Bool) : cs.getD 0 false = cs.headD false := by cases cs <;> rfl
def RdAt (Γ : List Sl) (I : List Nat) (cs : List Bool) (as : List AV) (ars : List Ar) (i : Nat) : Prop :=
  (as[i]? = none ∧ ars[i]? = none) ∨ (∃ fr x, as[i]? = some (.d fr x) ∧ ars[i]? = some (.d x)) ∨ (∃ j ic, as[i]? = some (.s j) ∧ cs.getD i false = true ∧ cellAt Γ j = some ic ∧ ars[i]? = some (.c ic.2)) ∨
    (∃ j x, as[i]? = some (.s j) ∧ cs.getD i false = false ∧ j ∉ I ∧ rdW Γ j = some x ∧ ars[i]? = some (.d x))
theorem RdAt.succ {Γ : List Sl} {I : List Nat} {cs : List Bool} {a : AV} {as : List AV} {y : Ar} {ars : List Ar} {i : Nat} (h : RdAt Γ I cs.tail as ars i) : RdAt Γ I cs (a :: as) (y :: ars) (i + 1) := by
  unfold RdAt at h ⊢
  rw [getD_tail]
  simpa using h
theorem prsC_mem {cs : List Bool} {as : List AV} {z : Nat × Nat} : z ∈ prsC cs as ↔ slotC cs as z.1 = some z.2 := by
  unfold prsC
  rw [List.mem_filterMap]
  constructor
  · rintro ⟨i, _, h⟩
    cases e : slotC cs as i with
    | none => rw [e] at h; cases h
    | some j => rw [e] at h; cases h; exact e
  · intro h
    refine ⟨z.1, List.mem_range.mpr ?_, by rw [h]; rfl⟩
    unfold slotC at h
    split at h
    · rename_i j hj
      exact (List.getElem?_eq_some_iff.mp hj).1
    · cases h
def setZs (b : Bool) (Z : List Sl) : List (Nat × Nat) → List Sl → Option (List Sl)
  | [], Γ => some Γ
  | z :: P, Γ => (ioAt z.1 Z).bind fun c => setZs b Z P (Γ.set z.2 (mkS b c))
theorem setZs_ok {b : Bool} {Z : List Sl} : ∀ {P : List (Nat × Nat)} {Γ Γ' : List Sl}, setZs b Z P Γ = some Γ' → (P.map (·.2)).Nodup → (∀ z ∈ P, z.2 < Γ.length) →
    Γ'.length = Γ.length ∧ (∀ z ∈ P, ∃ c, ioAt z.1 Z = some c ∧ Γ'[z.2]? = some (mkS b c)) ∧ ∀ j, j ∉ P.map (·.2) → Γ'[j]? = Γ[j]?
  | [], Γ, Γ', h, _, _ => by
    cases h
    exact ⟨rfl, by simp, fun _ _ => rfl⟩
  | z :: P, Γ, Γ', h, hn, hl => by
    unfold setZs at h
    cases e : ioAt z.1 Z with
    | none => rw [e] at h; cases h
    | some c =>
      rw [e] at h
      have h : setZs b Z P (Γ.set z.2 (mkS b c)) = some Γ' := h
      rw [List.map_cons, List.nodup_cons] at hn
      obtain ⟨h1, h2, h3⟩ := setZs_ok h hn.2 fun y hy => by rw [List.length_set]; exact hl y (List.mem_cons_of_mem _ hy)
      refine ⟨by rw [h1, List.length_set], fun y hy => ?_, fun j hj => ?_⟩
      · rcases List.mem_cons.mp hy with rfl | hy
        · exact ⟨c, e, by rw [h3 _ hn.1, List.getElem?_set_self (hl _ (by simp))]⟩
        · exact h2 y hy
      · rw [List.map_cons, List.mem_cons, not_or] at hj
        rw [h3 j hj.2, List.getElem?_set_ne (Ne.symm hj.1)]
def R.atCs (b : Bool) (P : List (Nat × Nat)) (Γ : List Sl) : R (Rs × List Sl) → R (Rs × List Sl)
  | .bad => .bad
  | .exc x => (R.ofO (setZs b x.st P Γ)).bind fun Γ' => .exc ⟨x.cls, x.flds, Γ'⟩
  | .val z => (R.ofO (setZs b z.2 P Γ)).bind fun Γ' => .val (z.1, Γ')
end PD
set_option Elab.async false
set_option linter.all false
set_option maxRecDepth 100000
set_option maxHeartbeats 4000000
set_option autoImplicit false
namespace PD
open PySem L2
section
variable {X : Cx} {W : WX} {sc : Scope} {N : List Str} {x : Str} {e : Expr} {es : List Expr} {p pos : Pos} {k : DA} {dvs : List V} {dds : List PyData} {m : List Ar → R (Rs × List Sl)}
def posC (P : List (Nat × Nat)) (j : Nat) : Nat := ((P.find? fun z => z.2 == j).map (·.1)).getD 0
theorem posC_of {P : List (Nat × Nat)} (hn : (P.map (·.2)).Nodup) {z : Nat × Nat} (hz : z ∈ P) : posC P z.2 = z.1 := by
  unfold posC
  induction P with
  | nil => cases hz
  | cons y P ih =>
    rw [List.map_cons, List.nodup_cons] at hn
    rw [List.find?_cons]
    rcases List.mem_cons.mp hz with rfl | hz
    · simp
    · have : (y.2 == z.2) = false := by
        simp only [beq_eq_false_iff_ne]
        exact fun q => hn.1 (q ▸ List.mem_map.mpr ⟨z, hz, rfl⟩)
      rw [this]
      exact ih hn.2 hz
def flagC (Γ : List Sl) (P : List (Nat × Nat)) : Bool := match P with
  | z :: _ => ((cellAt Γ z.2).map (·.1)).getD false
  | [] => false
end
end PD
set_option Elab.async false
set_option linter.all false
set_option maxRecDepth 100000
set_option maxHeartbeats 4000000
set_option autoImplicit false
namespace PD
open PySem L2
section
open PySem.W PySem.Calls PyProof.Rows
variable {X : Cx} {pins : List (Addr × Obj)} {σ : L2.St} {H : Hp} {s : Shared} {Q : VK}
end
end PD
namespace PD
open PySem L2
section
variable {X : Cx} {W : WX} {sc : Scope} {N : List Str} {e : Expr} {p py pos kpos : Pos} {f : DF}
end
end PD
set_option Elab.async false
set_option linter.all false
set_option maxRecDepth 100000
set_option maxHeartbeats 4000000
set_option autoImplicit false
namespace PD
open PySem L2
section
open PySem.W PySem.Calls PyProof.Rows
variable {X : Cx} {pins : List (Addr × Obj)} {σ : L2.St} {H : Hp} {s : Shared} {Q : VK}
end
end PD
namespace PD
open PySem L2
section
variable {X : Cx} {W : WX} {sc : Scope} {N : List Str} {e : Expr} {p py pos kpos : Pos} {f : DF}
end
end PD
set_option Elab.async false
set_option linter.all false
set_option maxRecDepth 100000
set_option maxHeartbeats 4000000
set_option autoImplicit false
namespace PD
open PySem L2
inductive Stp where
  | ix (c : Nat)
  | at (n : Str)
  | ky (k : Str)
def idxN (n : Str) : List Str → Option Nat
  | [] => none
  | x :: xs => if x = n then some 0 else (idxN n xs).map (· + 1)
def idxT (k : Str) : List PyData → Option Nat
  | [] => none
  | .str x :: xs => if x = k then some 0 else (idxT k xs).map (· + 1)
  | _ :: xs => (idxT k xs).map (· + 1)
def Tre.at : Tre → List Stp → Option Tre
  | T, [] => some T
  | .lst ts, .ix c :: ss => (ts[c]?).bind fun t => t.at ss
  | .tup ts, .ix c :: ss => (ts[c]?).bind fun t => t.at ss
  | .ins _ fs ts, .at n :: ss => (idxN n fs).bind fun c => (ts[c]?).bind fun t => t.at ss
  | .dic .k ks ts, .ky k :: ss => (idxT k ks).bind fun c => (ts[c]?).bind fun t => t.at ss
  | _, _ => none
def Tre.put : Tre → List Stp → Tre → Tre
  | _, [], U => U
  | .lst ts, .ix c :: ss, U => match ts[c]? with
    | some t => .lst (ts.set c (t.put ss U))
    | none => .lst ts
  | .tup ts, .ix c :: ss, U => match ts[c]? with
    | some t => .tup (ts.set c (t.put ss U))
    | none => .tup ts
  | .ins nm fs ts, .at n :: ss, U => match idxN n fs with
    | some c => match ts[c]? with
      | some t => .ins nm fs (ts.set c (t.put ss U))
      | none => .ins nm fs ts
    | none => .ins nm fs ts
  | .dic .k ks ts, .ky k :: ss, U => match idxT k ks with
    | some c => match ts[c]? with
      | some t => .dic .k ks (ts.set c (t.put ss U))
      | none => .dic .k ks ts
    | none => .dic .k ks ts
  | T, _, _ => T
inductive PathV (K : PySem.W.Frag) (H : Hp) : V → List Stp → V → Prop
  | nil {v : V} : PathV K H v [] v
  | ixl {p : Addr} {vs : List V} {c : Nat} {v u : V} {ss : List Stp} : H p = some (.lst vs) → vs[c]? = some v → PathV K H v ss u → PathV K H (.ref p) (.ix c :: ss) u
  | ixt {p : Addr} {vs : List V} {c : Nat} {v u : V} {ss : List Stp} : H p = some (.tup vs) → vs[c]? = some v → PathV K H v ss u → PathV K H (.ref p) (.ix c :: ss) u
  | att {p C dx : Addr} {n : Str} {fs : List (Str × V)} {v u : V} {ss : List Stp} : H p = some (.ins C dx fs) → fs.lookup n = some v → PathV K H v ss u → PathV K H (.ref p) (.at n :: ss) u
  | key {p : Addr} {k : Str} {kvs : List (Key × V)} {v u : V} {ss : List Stp} : H p = some (.dK kvs) → valV kvs (.inr k) = some v → PathV K H v ss u → PathV K H (.ref p) (.ky k :: ss) u
theorem PathV.snoc {K : PySem.W.Frag} {H : Hp} {s : Stp} : ∀ {ss : List Stp} {v u : V}, PathV K H v (ss ++ [s]) u → ∃ w, PathV K H v ss w ∧ PathV K H w [s] u
  | [], _, _, h => ⟨_, .nil, h⟩
  | _ :: ss, _, _, .ixl h1 h2 h3 => by
    obtain ⟨w, a, b⟩ := PathV.snoc (ss := ss) h3
    exact ⟨w, .ixl h1 h2 a, b⟩
  | _ :: ss, _, _, .ixt h1 h2 h3 => by
    obtain ⟨w, a, b⟩ := PathV.snoc (ss := ss) h3
    exact ⟨w, .ixt h1 h2 a, b⟩
  | _ :: ss, _, _, .att h1 h2 h3 => by
    obtain ⟨w, a, b⟩ := PathV.snoc (ss := ss) h3
    exact ⟨w, .att h1 h2 a, b⟩
  | _ :: ss, _, _, .key h1 h2 h3 => by
    obtain ⟨w, a, b⟩ := PathV.snoc (ss := ss) h3
    exact ⟨w, .key h1 h2 a, b⟩
theorem PathV.keep {K : PySem.W.Frag} {H H' : Hp} (k : ∀ a o, H a = some o → H' a = some o) : ∀ {ss : List Stp} {v u : V}, PathV K H v ss u → PathV K H' v ss u
  | [], _, _, .nil => .nil
  | _ :: _, _, _, .ixl a1 a2 a3 => .ixl (k _ _ a1) a2 (PathV.keep k a3)
  | _ :: _, _, _, .ixt a1 a2 a3 => .ixt (k _ _ a1) a2 (PathV.keep k a3)
  | _ :: _, _, _, .att a1 a2 a3 => .att (k _ _ a1) a2 (PathV.keep k a3)
  | _ :: _, _, _, .key a1 a2 a3 => .key (k _ _ a1) a2 (PathV.keep k a3)
theorem valV_idx {k : Str} : ∀ {kvs : List (Key × V)} {c : Nat} {v : V}, idxT k (kvs.map fun z => keyD z.1) = some c → (kvs.map (·.2))[c]? = some v → valV kvs (.inr k) = some v
  | [], c, v, h, _ => by cases h
  | (.inl i, w) :: kvs, c, v, h, hv => by
    replace h : (idxT k (kvs.map fun z => keyD z.1)).map (· + 1) = some c := h
    obtain ⟨c', hc, rfl⟩ := Option.map_eq_some_iff.mp h
    have := valV_idx hc (by simpa using hv)
    unfold valV at this ⊢
    rw [List.find?_cons]
    exact this
  | (.inr x, w) :: kvs, c, v, h, hv => by
    replace h : (if x = k then some 0 else (idxT k (kvs.map fun z => keyD z.1)).map (· + 1)) = some c := h
    by_cases q : x = k
    · rw [if_pos q] at h
      cases h
      cases hv
      subst q
      unfold valV
      rw [List.find?_cons]
      simp
    · rw [if_neg q] at h
      obtain ⟨c', hc, rfl⟩ := Option.map_eq_some_iff.mp h
      have e := valV_idx hc (by simpa using hv)
      unfold valV at e ⊢
      rw [List.find?_cons]
      have d : decide ((Sum.inr x : Key) = Sum.inr k) = false := decide_eq_false fun e => q (Sum.inr.inj e)
      simp only [d]
      exact e
theorem lookup_idx {n : Str} : ∀ {fl : List (Str × V)} {c : Nat} {v : V}, idxN n (fl.map (·.1)) = some c → (fl.map (·.2))[c]? = some v → fl.lookup n = some v
  | [], c, v, h, _ => by cases h
  | (x, w) :: fl, c, v, h, hv => by
    replace h : (if x = n then some 0 else (idxN n (fl.map (·.1))).map (· + 1)) = some c := h
    by_cases q : x = n
    · rw [if_pos q] at h
      cases h
      cases hv
      subst q
      simp [List.lookup]
    · rw [if_neg q] at h
      obtain ⟨c', hc, rfl⟩ := Option.map_eq_some_iff.mp h
      have : (n == x) = false := by simpa using Ne.symm q
      simp only [List.lookup, this]
      exact lookup_idx hc (by simpa using hv)
def Part (K : PySem.W.Frag) (G : Rg) (H : Hp) (v : V) (fp : List Addr) (T : Tre) (ss : List Stp) (T' : Tre) : Prop :=
  ∃ v' fp', PathV K H v ss v' ∧ TreOk K G H v' fp' T' ∧ (∀ a ∈ fp', a ∈ fp) ∧
    ∀ (G2 : Rg) (H' : Hp) (U : Tre) (fq : List Addr), RgLe G G2 → TupLe H H' → (∀ a ∈ fp, a ∉ fp' → H' a = H a) → TreOk K G2 H' v' fq U → (∀ a ∈ fq, a ∉ fp ∨ a ∈ fp') →
      ∃ fpn, TreOk K G2 H' v fpn (T.put ss U) ∧ ∀ a ∈ fpn, (a ∈ fp ∧ a ∉ fp') ∨ a ∈ fq
theorem TresOk.partAt {K : PySem.W.Frag} {G : Rg} {H : Hp} {ss : List Stp} {T' : Tre} (IH : ∀ {v : V} {fp : List Addr} {T : Tre}, TreOk K G H v fp T → T.at ss = some T' → Part K G H v fp T ss T') : ∀ {ws : List V} {fp : List Addr} {ts : List Tre} {c : Nat} {t : Tre}, TresOk K G H ws fp ts → ts[c]? = some t → t.at ss = some T' →
    ∃ v v' fp', ws[c]? = some v ∧ PathV K H v ss v' ∧ TreOk K G H v' fp' T' ∧ (∀ a ∈ fp', a ∈ fp) ∧
      ∀ (G2 : Rg) (H' : Hp) (U : Tre) (fq : List Addr), RgLe G G2 → TupLe H H' → (∀ a ∈ fp, a ∉ fp' → H' a = H a) → TreOk K G2 H' v' fq U → (∀ a ∈ fq, a ∉ fp ∨ a ∈ fp') →
        ∃ fpn, TresOk K G2 H' ws fpn (ts.set c (t.put ss U)) ∧ ∀ a ∈ fpn, (a ∈ fp ∧ a ∉ fp') ∨ a ∈ fq
  | _, _, _, c, t, .nil, e, _ => by simp at e
  | _, _, _, 0, t, .cons (f1 := f1) (f2 := f2) h a n, e, ha => by
    simp at e
    subst e
    obtain ⟨v', fp', p1, p2, p3, p4⟩ := IH h ha
    refine ⟨_, v', fp', rfl, p1, p2, fun b hb => by simp [p3 b hb], fun G2 H' U fq g t k u d => ?_⟩
    have kf : ∀ b ∈ f2, H' b = H b := fun b hb => k b (by simp [hb]) fun z => n b (p3 b z) hb
    obtain ⟨f1n, q1, q2⟩ := p4 G2 H' U fq g t (fun b hb => k b (by simp [hb])) u (fun b hb => (d b hb).imp (fun z y => z (by simp [y])) id)
    refine ⟨f1n ++ f2, .cons q1 (TresOk.mono g t a kf) fun b hb hc => ?_, fun b hb => ?_⟩
    · rcases q2 b hb with z | z
      · exact n b z.1 hc
      · rcases d b z with y | y
        · exact y (by simp [hc])
        · exact n b (p3 b y) hc
    · rcases List.mem_append.mp hb with z | z
      · exact (q2 b z).imp (fun y => ⟨by simp [y.1], y.2⟩) id
      · exact .inl ⟨by simp [z], fun y => n b (p3 b y) z⟩
  | _, _, _, c + 1, t, .cons (f1 := f1) (f2 := f2) h a n, e, ha => by
    obtain ⟨v, v', fp', p0, p1, p2, p3, p4⟩ := TresOk.partAt IH (c := c) a (by simpa using e) ha
    refine ⟨v, v', fp', by simpa using p0, p1, p2, fun b hb => by simp [p3 b hb], fun G2 H' U fq g t k u d => ?_⟩
    have kf : ∀ b ∈ f1, H' b = H b := fun b hb => k b (by simp [hb]) fun z => n b hb (p3 b z)
    obtain ⟨f2n, q1, q2⟩ := p4 G2 H' U fq g t (fun b hb => k b (by simp [hb])) u (fun b hb => (d b hb).imp (fun z y => z (by simp [y])) id)
    refine ⟨f1 ++ f2n, .cons (TreOk.mono g t h kf) q1 fun b hb hc => ?_, fun b hb => ?_⟩
    · rcases q2 b hc with z | z
      · exact n b hb z.1
      · rcases d b z with y | y
        · exact y (by simp [hb])
        · exact n b hb (p3 b y)
    · rcases List.mem_append.mp hb with z | z
      · exact .inl ⟨by simp [z], fun y => n b z (p3 b y)⟩
      · exact (q2 b z).imp (fun y => ⟨by simp [y.1], y.2⟩) id
theorem TreOk.part {K : PySem.W.Frag} {G : Rg} {H : Hp} : ∀ (ss : List Stp) {v : V} {fp : List Addr} {T T' : Tre}, TreOk K G H v fp T → T.at ss = some T' → Part K G H v fp T ss T'
  | [], v, fp, T, T', h, e => by
    have e : some T = some T' := by cases T <;> exact e
    cases e
    refine ⟨v, fp, .nil, h, fun a ha => ha, fun G2 H' U fq g t k u d => ⟨fq, ?_, fun a ha => .inr ha⟩⟩
    have : T.put [] U = U := by cases T <;> rfl
    rw [this]
    exact u
  | .ix c :: ss, _, _, .lst ts, T', .lst (p := p) h a n, e => by
    obtain ⟨t0, ht, e⟩ := Option.bind_eq_some_iff.mp (show (ts[c]?).bind (fun t => t.at ss) = some T' from e)
    obtain ⟨v, v', fp', p0, p1, p2, p3, p4⟩ := TresOk.partAt (fun h e => TreOk.part ss h e) a ht e
    refine ⟨v', fp', .ixl h p0 p1, p2, fun b hb => by simp [p3 b hb], fun G2 H' U fq g t k u d => ?_⟩
    obtain ⟨fpn, q1, q2⟩ := p4 G2 H' U fq g t (fun b hb => k b (by simp [hb])) u (fun b hb => (d b hb).imp (fun z y => z (by simp [y])) id)
    have np : p ∉ fp' := fun z => n (p3 p z)
    refine ⟨p :: fpn, ?_, fun b hb => ?_⟩
    · have : Tre.put (.lst ts) (.ix c :: ss) U = .lst (ts.set c (Tre.put t0 ss U)) := by
        show (match ts[c]? with | some t => Tre.lst (ts.set c (t.put ss U)) | none => .lst ts) = _
        rw [ht]
      rw [this]
      refine .lst (by rw [k p (by simp) np]; exact h) q1 fun z => ?_
      rcases q2 p z with y | y
      · exact n y.1
      · rcases d p y with w | w
        · exact w (by simp)
        · exact np w
    · rcases List.mem_cons.mp hb with rfl | hb
      · exact .inl ⟨by simp, np⟩
      · exact (q2 b hb).imp (fun y => ⟨by simp [y.1], y.2⟩) id
  | .ix c :: ss, _, _, .tup ts, T', .tup (p := p) h a, e => by
    obtain ⟨t0, ht, e⟩ := Option.bind_eq_some_iff.mp (show (ts[c]?).bind (fun t => t.at ss) = some T' from e)
    obtain ⟨v, v', fp', p0, p1, p2, p3, p4⟩ := TresOk.partAt (fun h e => TreOk.part ss h e) a ht e
    refine ⟨v', fp', .ixt h p0 p1, p2, p3, fun G2 H' U fq g t k u d => ?_⟩
    obtain ⟨fpn, q1, q2⟩ := p4 G2 H' U fq g t k u d
    have ep : Tre.put (.tup ts) (.ix c :: ss) U = .tup (ts.set c (Tre.put t0 ss U)) := by
      show (match ts[c]? with | some t => Tre.tup (ts.set c (t.put ss U)) | none => .tup ts) = _
      rw [ht]
    exact ⟨fpn, ep ▸ TreOk.tup (t _ _ h) q1, q2⟩
  | .at x :: ss, _, _, _, T', .ins (p := p) (dx := dx) (nm := nm) (fs := fl) (ts := ts) h1 h2 ne a n1 n2, e => by
    obtain ⟨c, hc, e⟩ := Option.bind_eq_some_iff.mp (show (idxN x (List.map (fun z : Str × V => z.1) fl)).bind (fun c => (ts[c]?).bind fun t => t.at ss) = some T' from e)
    obtain ⟨t0, ht, e⟩ := Option.bind_eq_some_iff.mp e
    obtain ⟨v, v', fp', p0, p1, p2, p3, p4⟩ := TresOk.partAt (fun h e => TreOk.part ss h e) a ht e
    refine ⟨v', fp', .att h1 (lookup_idx hc p0) p1, p2, fun b hb => by simp [p3 b hb], fun G2 H' U fq g t k u d => ?_⟩
    obtain ⟨fpn, q1, q2⟩ := p4 G2 H' U fq g t (fun b hb => k b (by simp [hb])) u (fun b hb => (d b hb).imp (fun z y => z (by simp [y])) id)
    have np : p ∉ fp' := fun z => n1 (p3 p z)
    have nd : dx ∉ fp' := fun z => n2 (p3 dx z)
    have no : ∀ b, (b = p ∨ b = dx) → b ∉ fpn := fun b hb z => by
      rcases q2 b z with y | y
      · rcases hb with rfl | rfl
        · exact n1 y.1
        · exact n2 y.1
      · rcases d b y with w | w
        · rcases hb with rfl | rfl <;> exact w (by simp)
        · rcases hb with rfl | rfl
          · exact np w
          · exact nd w
    refine ⟨p :: dx :: fpn, ?_, fun b hb => ?_⟩
    · have : Tre.put (.ins nm (List.map (fun z : Str × V => z.1) fl) ts) (.at x :: ss) U = .ins nm (List.map (fun z : Str × V => z.1) fl) (ts.set c (Tre.put t0 ss U)) := by
        show (match idxN x (List.map (fun z : Str × V => z.1) fl) with | some c => (match ts[c]? with | some t => Tre.ins nm (List.map (fun z : Str × V => z.1) fl) (ts.set c (t.put ss U)) | none => .ins nm (List.map (fun z : Str × V => z.1) fl) ts) | none => .ins nm (List.map (fun z : Str × V => z.1) fl) ts) = _
        rw [hc]
        dsimp only
        rw [ht]
      rw [this]
      exact .ins (by rw [k p (by simp) np]; exact h1) (by rw [k dx (by simp) nd]; exact h2) ne q1 (no p (.inl rfl)) (no dx (.inr rfl))
    · rcases List.mem_cons.mp hb with rfl | hb
      · exact .inl ⟨by simp, np⟩
      · rcases List.mem_cons.mp hb with rfl | hb
        · exact .inl ⟨by simp, nd⟩
        · exact (q2 b hb).imp (fun y => ⟨by simp [y.1], y.2⟩) id
  | .ky x :: ss, _, _, .dic .k ks ts, T', .dic (p := p) h hc a n, e => by
    obtain ⟨kvs, ho, hk, hv⟩ := hc
    subst ho hk hv
    obtain ⟨c, hc, e⟩ := Option.bind_eq_some_iff.mp (show (idxT x (kvs.map fun z => keyD z.1)).bind (fun c => (ts[c]?).bind fun t => t.at ss) = some T' from e)
    obtain ⟨t0, ht, e⟩ := Option.bind_eq_some_iff.mp e
    obtain ⟨v, v', fp', p0, p1, p2, p3, p4⟩ := TresOk.partAt (fun h e => TreOk.part ss h e) a ht e
    refine ⟨v', fp', .key h (valV_idx hc p0) p1, p2, fun b hb => by simp [p3 b hb], fun G2 H' U fq g t k u d => ?_⟩
    obtain ⟨fpn, q1, q2⟩ := p4 G2 H' U fq g t (fun b hb => k b (by simp [hb])) u (fun b hb => (d b hb).imp (fun z y => z (by simp [y])) id)
    have np : p ∉ fp' := fun z => n (p3 p z)
    refine ⟨p :: fpn, ?_, fun b hb => ?_⟩
    · have : Tre.put (.dic .k (kvs.map fun z : Key × V => keyD z.1) ts) (.ky x :: ss) U = .dic .k (kvs.map fun z : Key × V => keyD z.1) (ts.set c (Tre.put t0 ss U)) := by
        show (match idxT x (kvs.map fun z : Key × V => keyD z.1) with | some c => (match ts[c]? with | some t => Tre.dic .k (kvs.map fun z : Key × V => keyD z.1) (ts.set c (t.put ss U)) | none => .dic .k (kvs.map fun z : Key × V => keyD z.1) ts) | none => .dic .k (kvs.map fun z : Key × V => keyD z.1) ts) = _
        rw [hc]
        dsimp only
        rw [ht]
      rw [this]
      refine .dic (by rw [k p (by simp) np]; exact h) ⟨kvs, rfl, rfl, rfl⟩ q1 fun z => ?_
      rcases q2 p z with y | y
      · exact n y.1
      · rcases d p y with w | w
        · exact w (by simp)
        · exact np w
    · rcases List.mem_cons.mp hb with rfl | hb
      · exact .inl ⟨by simp, np⟩
      · exact (q2 b hb).imp (fun y => ⟨by simp [y.1], y.2⟩) id
  | .ky c :: ss, _, _, .d x, T', _, e => by cases e
  | .ky c :: ss, _, _, .dic .t _ _, T', _, e => by cases e
  | .ky c :: ss, _, _, .dic .n _ _, T', _, e => by cases e
  | .ky c :: ss, _, _, .lst _, T', _, e => by cases e
  | .ky c :: ss, _, _, .tup _, T', _, e => by cases e
  | .ky c :: ss, _, _, .ins _ _ _, T', _, e => by cases e
  | .ix c :: ss, _, _, .d x, T', _, e => by cases e
  | .ix c :: ss, _, _, .dic _ _ _, T', _, e => by cases e
  | .ix c :: ss, _, _, .ins _ _ _, T', _, e => by cases e
  | .at c :: ss, _, _, .d x, T', _, e => by cases e
  | .at c :: ss, _, _, .dic _ _ _, T', _, e => by cases e
  | .at c :: ss, _, _, .lst _, T', _, e => by cases e
  | .at c :: ss, _, _, .tup _, T', _, e => by cases e
def Tre.node : Tre → Bool
  | .d _ => false
  | _ => true
theorem TreOk.root {K : PySem.W.Frag} {G : Rg} {H : Hp} {v : V} {fp : List Addr} {T : Tre} (h : TreOk K G H v fp T) (hn : T.node = true) : ∃ p, v = .ref p ∧ (p ∈ fp ∨ ∃ xs, H p = some (.tup xs)) := by
  cases h with
  | d _ => cases hn
  | lst h a n => exact ⟨_, rfl, .inl (by simp)⟩
  | tup h a => exact ⟨_, rfl, .inr ⟨_, h⟩⟩
  | dic h c a n => exact ⟨_, rfl, .inl (by simp)⟩
  | ins h1 h2 ne a n1 n2 => exact ⟨_, rfl, .inl (by simp)⟩
theorem put_node {T T' U : Tre} {s : Stp} {ss : List Stp} (h : T.at (s :: ss) = some T') : (T.put (s :: ss) U).node = true := by
  cases T with
  | d x => cases s <;> cases h
  | lst ts =>
    cases s with
    | ix c =>
      show (match ts[c]? with | some t => Tre.lst (ts.set c (t.put ss U)) | none => .lst ts).node = true
      split <;> rfl
    | «at» n => cases h
    | ky k => cases h
  | tup ts =>
    cases s with
    | ix c =>
      show (match ts[c]? with | some t => Tre.tup (ts.set c (t.put ss U)) | none => .tup ts).node = true
      split <;> rfl
    | «at» n => cases h
    | ky k => cases h
  | dic t ks ts =>
    cases s with
    | ix c => cases h
    | «at» n => cases h
    | ky k =>
      cases t with
      | k =>
        show (match idxT k ks with | some c => (match ts[c]? with | some t => Tre.dic .k ks (ts.set c (t.put ss U)) | none => .dic .k ks ts) | none => .dic .k ks ts).node = true
        split
        · split <;> rfl
        · rfl
      | t => cases h
      | n => cases h
  | ins nm fs ts =>
    cases s with
    | ky k => cases h
    | ix c => cases h
    | «at» n =>
      show (match idxN n fs with | some c => (match ts[c]? with | some t => Tre.ins nm fs (ts.set c (t.put ss U)) | none => .ins nm fs ts) | none => .ins nm fs ts).node = true
      split
      · split <;> rfl
      · rfl
theorem Sta.cellV {K : PySem.W.Frag} {G : Gh} {H : Hp} {σ : St} {Γ : List Sl} {c : Cl} (S : Sta K G H σ Γ) (i : Nat) (io : Bool) (hi : Γ[i]? = some (if io then .io c else .own c)) :
    ∃ v fp, σ[i]? = some (some v) ∧ c.ok K (RgN G) H v fp ∧ (∀ p ∈ fp, H p ≠ none) ∧ (∀ fr a o, rg G fr a o → a ∉ fp) ∧ (∀ (j : Nat) (x : PyData) (u : V), j ≠ i → PD.rdW Γ j = some x → σ[j]? = some (some u) → Dn K (fun a o => H a = some o ∧ a ∉ fp) H u x) ∧ (∀ (j : Nat) (w : Bool × Cl), j ≠ i → cellAt Γ j = some w → ∃ u fj, σ[j]? = some (some u) ∧ w.2.ok K (RgN G) H u fj ∧ ∀ a ∈ fj, a ∉ fp) ∧
      ∀ H' N' fp' c', (∀ a o, H a = some o → a ∉ fp → H' a = some o) → (∀ a ∈ fp, H' a ≠ none) → TupLe H H' → NewIn G.N N' H H' → c'.ok K (RN N') H' v fp' → (∀ p ∈ fp', H' p ≠ none ∧ N' p = none ∧ (p ∈ fp ∨ H p = none)) →
        ∃ G', Sta K G' H' σ (Γ.set i (if io then .io c' else .own c')) ∧ Ext G H G' H' ∧ RgLe (RN N') (rg G' true) := by
  obtain ⟨A, S⟩ := S
  have key : ∃ v, σ[i]? = some (some v) ∧ c.ok K (RgN G) H v (A i) ∧ (io = true → G.I i = some v) ∧ (io = false → ∀ p ∈ A i, G.H0 p = none) := by
    cases io with
    | true =>
      obtain ⟨v, h1, h2, h3⟩ := S.sl i _ hi
      exact ⟨v, h1, h3, fun _ => h2, fun h => by cases h⟩
    | false =>
      obtain ⟨v, h1, h2, h3⟩ := S.sl i _ hi
      exact ⟨v, h1, h3, fun h => absurd h (by simp), fun _ => h2⟩
  obtain ⟨v, h1, h2, h3, h4⟩ := key
  refine ⟨v, A i, h1, h2, fun p hp => (S.al i p hp).1, fun fr a o h hp => ?_, fun j x u hj hr hu => ?_, fun j w hj hw => ?_, fun H' N' fp' c' k1 k2 t n ok f => ?_⟩
  · obtain ⟨_, q1, q2⟩ := S.al i a hp
    cases fr with
    | true =>
      have h : G.N a = some o := h
      rw [q1] at h; cases h
    | false =>
      rcases h with h | ⟨h, h'⟩
      · rw [q1] at h; cases h
      · rcases q2 with q2 | q2
        · exact h' q2
        · rw [q2] at h; cases h
  · refine (S.rdW hr hu).mono (fun a o z => ⟨z.1, fun hp => ?_⟩) (TupLe.rf _)
    rcases z.2 with z | z | z
    · rw [(S.al i a hp).2.1] at z; cases z
    · exact hj (S.dj j i a z hp)
    · rw [S.ae i a hp] at z; cases z
  · have hw := cellAt_ok hw
    obtain ⟨io', cj⟩ := w
    cases io' with
    | true =>
      obtain ⟨u, h5, _, h6⟩ := S.sl j _ hw
      exact ⟨u, A j, h5, h6, fun a ha hb => hj (S.dj j i a ha hb)⟩
    | false =>
      obtain ⟨u, h5, _, h6⟩ := S.sl j _ hw
      exact ⟨u, A j, h5, h6, fun a ha hb => hj (S.dj j i a ha hb)⟩
  · have g : Grow G H (jn G.N N') H' (A i) := by
      refine ⟨k1, k2, t, fun a o h => jn_left h, fun a o h => ?_⟩
      rcases jn_cases h with h | ⟨_, h⟩
      · refine ⟨k1 a o (S.w.new a o h).1 fun hp => ?_, .inl h⟩
        rw [(S.al i a hp).2.1] at h; cases h
      · exact ⟨(n a o h).1, (n a o h).2.elim .inr .inl⟩
    have l : RgLe (RN N') (RN (jn G.N N')) := fun a o h => by
      show jn G.N N' a = some o
      cases q : G.N a with
      | none => rw [jn_right q]; exact h
      | some u =>
        rcases (n a o h).2 with z | z
        · have := (S.w.new a u q).1
          rw [z] at this
          cases this
        · exact jn_left z
    have f2 : ∀ p ∈ fp', H' p ≠ none ∧ jn G.N N' p = none ∧ (p ∈ A i ∨ H p = none) := fun p hp => by
      obtain ⟨q1, q2, q3⟩ := f p hp
      refine ⟨q1, ?_, q3⟩
      have : G.N p = none := by
        rcases q3 with q3 | q3
        · exact (S.al i p q3).2.1
        · exact (S.w.fresh q3).1
      rw [jn_right this]
      exact q2
    obtain ⟨S', e⟩ := S.step (i := i) (fp' := fp') (s' := if io then .io c' else .own c') (σ' := σ) g (fun p hp => hp) (fun j hj => rfl) rfl (fun hlt => by
      cases io with
      | true => exact ⟨v, h1, h3 rfl, Cl.mono ok l (fun _ _ => rfl) (TupLe.rf _)⟩
      | false =>
        refine ⟨v, h1, fun p hp => ?_, Cl.mono ok l (fun _ _ => rfl) (TupLe.rf _)⟩
        rcases (f p hp).2.2 with q | q
        · exact h4 rfl p q
        · exact (S.w.fresh q).2.1) f2
    exact ⟨_, S', e, l⟩
def treA (Γ : List Sl) (i : Nat) (ss : List Stp) : Option Tre := match cellAt Γ i with
  | some (_, .tr T) => T.at ss
  | _ => none
def partA (Γ : List Sl) (i : Nat) (ss : List Stp) : Option (Bool × Tre × Tre) := match cellAt Γ i, ss with
  | some (io, .tr T), s :: ss => (T.at (s :: ss)).map fun U => (io, T, U)
  | _, _ => none
theorem partA_ok {Γ : List Sl} {i : Nat} {ss : List Stp} {z : Bool × Tre × Tre} (h : partA Γ i ss = some z) : Γ[i]? = some (if z.1 then .io (.tr z.2.1) else .own (.tr z.2.1)) ∧ z.2.1.at ss = some z.2.2 ∧ ∃ s r, ss = s :: r := by
  unfold partA at h
  split at h
  · rename_i io T s r hc
    obtain ⟨U, hU, rfl⟩ := Option.map_eq_some_iff.mp h
    exact ⟨cellAt_ok hc, hU, s, r, rfl⟩
  · cases h
theorem Sta.partU {K : PySem.W.Frag} {G : Gh} {H : Hp} {σ : St} {Γ : List Sl} {i : Nat} {ss : List Stp} {z : Bool × Tre × Tre} (S : Sta K G H σ Γ) (h : partA Γ i ss = some z) :
    ∃ v0 v fp, σ[i]? = some (some v0) ∧ PathV K H v0 ss v ∧ TreOk K (RgN G) H v fp z.2.2 ∧ (∀ p ∈ fp, H p ≠ none) ∧ (∀ fr a o, rg G fr a o → a ∉ fp) ∧ (∀ (j : Nat) (x : PyData) (u : V), j ≠ i → PD.rdW Γ j = some x → σ[j]? = some (some u) → Dn K (fun a o => H a = some o ∧ a ∉ fp) H u x) ∧
      (∀ (j : Nat) (sj : List Stp) (T : Tre), j ≠ i → treA Γ j sj = some T → ∃ u0 u, σ[j]? = some (some u0) ∧ PathV K H u0 sj u ∧ ∀ d, trD T = some d → Dn K (fun a o => H a = some o ∧ a ∉ fp) H u d) ∧
      ∀ H' N' fp' U', (∀ a o, H a = some o → a ∉ fp → H' a = some o) → (∀ a ∈ fp, H' a ≠ none) → TupLe H H' → NewIn G.N N' H H' → TreOk K (RN N') H' v fp' U' → (∀ p ∈ fp', H' p ≠ none ∧ N' p = none ∧ (p ∈ fp ∨ H p = none)) →
        ∃ G', Sta K G' H' σ (Γ.set i (mkS z.1 (.tr (z.2.1.put ss U')))) ∧ Ext G H G' H' ∧ RgLe (RN N') (rg G' true) := by
  obtain ⟨h1, h2, s, r, rfl⟩ := partA_ok h
  obtain ⟨v0, fw, g1, ⟨g2, _⟩, g3, g4, g5, gV, g6⟩ := S.cellV i z.1 (c := .tr z.2.1) h1
  obtain ⟨v, fp, p1, p2, p3, p4⟩ := TreOk.part (s :: r) g2 h2
  refine ⟨v0, v, fp, g1, p1, p2, fun p hp => g3 p (p3 p hp), fun fr a o q hp => g4 fr a o q (p3 a hp), fun j x u hj hx hu => (g5 j x u hj hx hu).mono (fun a o q => ⟨q.1, fun hp => q.2 (p3 a hp)⟩) (TupLe.rf _), fun j sj T hj hT => ?_, fun H' N' fp' U' k1 k2 t n u f => ?_⟩
  · unfold treA at hT
    split at hT
    · rename_i io T0 hc
      obtain ⟨u0, fj, a1, ⟨a2, _⟩, a3⟩ := gV j _ hj hc
      obtain ⟨u, fq, b1, b2, b3, _⟩ := TreOk.part sj a2 hT
      exact ⟨u0, u, a1, b1, fun d hd => TreOk.dn (fun a o q => ⟨(S.w.new a o q).1, fun hp => g4 true a o q (p3 a hp)⟩) b2 (fun a ha o ho => ⟨ho, fun hp => a3 a (b3 a ha) (p3 a hp)⟩) d hd⟩
    · cases hT
  have l : RgLe (RN N') (RN (jn G.N N')) := fun a o q => by
    show jn G.N N' a = some o
    cases e : G.N a with
    | none => rw [jn_right e]; exact q
    | some y =>
      rcases (n a o q).2 with z | z
      · have := (S.w.new a y e).1
        rw [z] at this
        cases this
      · exact jn_left z
  have nf : ∀ p ∈ fp', jn G.N N' p = none := fun p hp => by
    obtain ⟨_, q2, q3⟩ := f p hp
    have : G.N p = none := by
      rcases q3 with q3 | q3
      · cases e : G.N p with
        | none => rfl
        | some y => exact absurd q3 (fun z => g4 true p y e (p3 p z))
      · exact (S.w.fresh q3).1
    rw [jn_right this]
    exact q2
  obtain ⟨fpn, q1, q2⟩ := p4 (RN (jn G.N N')) H' U' fp' (fun a o q => jn_left q) t (fun a ha hn => by
    cases e : H a with
    | none => exact absurd e (g3 a ha)
    | some y => exact k1 a y e hn) (TreOk.mono l (TupLe.rf _) u fun _ _ => rfl) (fun a ha => by
    rcases (f a ha).2.2 with q | q
    · exact .inr q
    · exact .inl fun y => g3 a y q)
  obtain ⟨G', S', e', l'⟩ := g6 H' (jn G.N N') fpn (.tr (z.2.1.put (s :: r) U')) (fun a o q hn => k1 a o q fun y => hn (p3 a y)) (fun a ha => by
      by_cases hp : a ∈ fp
      · exact k2 a hp
      · cases e : H a with
        | none => exact absurd e (g3 a ha)
        | some y => rw [k1 a y e hp]; simp) t (fun a o q => by
      rcases jn_cases q with q | ⟨_, q⟩
      · exact ⟨k1 a o (S.w.new a o q).1 fun y => g4 true a o q (p3 a y), .inr q⟩
      · exact n a o q) ⟨q1, q1.root (put_node h2)⟩ (fun p hp => by
      rcases q2 p hp with q | q
      · have hN : G.N p = none := by
          cases e : G.N p with
          | none => rfl
          | some y => exact absurd q.1 (g4 true p y e)
        refine ⟨?_, ?_, .inl q.1⟩
        · cases e : H p with
          | none => exact absurd e (g3 p q.1)
          | some y => rw [k1 p y e q.2]; simp
        · rw [jn_right hN]
          cases e : N' p with
          | none => rfl
          | some y =>
            rcases (n p y e).2 with w | w
            · exact absurd w (g3 p q.1)
            · rw [hN] at w; cases w
      · obtain ⟨a1, _, a3⟩ := f p q
        exact ⟨a1, nf p q, a3.imp (p3 p) id⟩)
  exact ⟨G', S', e', fun a o q => l' a o (l a o q)⟩
end PD
set_option Elab.async false
set_option linter.all false
set_option maxRecDepth 100000
set_option maxHeartbeats 4000000
set_option autoImplicit false
namespace PD
open PySem PySem.Spec L2
open PyProof.Rows hiding St
abbrev DPs := List Sl → Option (List Stp)
def CPt (X : Cx) (W : WX) (e : Expr) (i : Nat) (ps : DPs) : Prop := ∀ Γ ss, ps Γ = some ss → PE X e (fun σ H Q => ∃ G, Sta X.K G H σ Γ ∧ ∃ v0 v, σ[i]? = some (some v0) ∧ PathV X.K H v0 ss v ∧ Q v H)
section
variable {X : Cx} {W : WX} {sc : Scope} {N : List Str} {a b e o : Expr} {pos p p2 cp : Pos} {cl : List (Str × List Str)} {x y n : Str} {ps : DPs} {i : Nat}
def pVar : DPs := fun _ => some []
theorem cp_var (C : Cf0 X W sc N) (i : Nat) (hN : N[i]? = some x) (hv : visB sc x = true) (hd : (x == ("__debug__" : Str)) = false := by decide +kernel) (hcd : (x == ("__classdict__" : Str)) = false := by decide +kernel) : CPt X W (.Name x pos) i pVar := fun Γ ss h => by
  cases h
  exact pe_imp (pe_var (i := i) (by rw [C.hN]; exact hN) (by rw [C.hsc]; exact vis_of hv) hd hcd) fun σ H Q ⟨G, S, v0, v, h1, h2, q⟩ => by
    cases h2
    exact ⟨v0, h1, q⟩
def pIx (ps : DPs) (c : Nat) : DPs := fun Γ => (ps Γ).map (· ++ [.ix c])
theorem path_ix {K : PySem.W.Frag} {H : Hp} {w v : V} {c : Nat} (h : PathV K H w [.ix c] v) : ∃ p vs, w = .ref p ∧ (H p = some (.lst vs) ∨ H p = some (.tup vs)) ∧ vs[c]? = some v := by
  cases h with
  | ixl h1 h2 h3 => cases h3; exact ⟨_, _, rfl, .inl h1, h2⟩
  | ixt h1 h2 h3 => cases h3; exact ⟨_, _, rfl, .inr h1, h2⟩
theorem cp_ix {c : Nat} {j : Nat} (h : CPt X W a i ps) (hs : PlainIx (.Constant (.int (c : Int)) j cp) := by exact fun _ _ => rfl) : CPt X W (.Subscript a (.Constant (.int (c : Int)) j cp) pos) i (pIx ps c) := fun Γ ss hz => by
  obtain ⟨s0, h0, rfl⟩ := Option.map_eq_some_iff.mp hz
  refine pe_imp (pe_ix ix_seq (h Γ s0 h0) pe_int hs) fun σ H Q ⟨G, S, v0, v, h1, h2, q⟩ => ?_
  obtain ⟨w, k1, k2⟩ := h2.snoc
  obtain ⟨q0, vs, rfl, k3, k4⟩ := path_ix k2
  refine ⟨G, S, v0, _, h1, k1, ?_⟩
  rcases k3 with k3 | k3
  · exact .inl ⟨q0, vs, (c : Int), v, rfl, rfl, SqL.of k3, at_natV k4, q⟩
  · exact .inr (.inl ⟨q0, vs, (c : Int), v, rfl, rfl, SqT.of k3, at_natV k4, q⟩)
inductive Atp where
  | k (b : Bool) (r : DK)
  | p (i : Nat) (ps : DPs)
  | c (i : Nat) (ps : DPs)
  | w (i : Nat)
def AtOk (K : PySem.W.Frag) (G : Gh) (H : Hp) (σ : L2.St) (Γ : List Sl) (v : V) : Atp → Prop
  | .k _ r => ∀ z, r Γ = some z → Dn K (rg G z.1) H v z.2
  | .p i ps => ∃ v0 ss, ps Γ = some ss ∧ σ[i]? = some (some v0) ∧ PathV K H v0 ss v
  | .c i ps => ∃ v0 ss, ps Γ = some ss ∧ σ[i]? = some (some v0) ∧ PathV K H v0 ss v
  | .w i => σ[i]? = some (some v)
theorem AtOk.ext {K : PySem.W.Frag} {G G' : Gh} {H H' : Hp} {σ : L2.St} {Γ : List Sl} {v : V} {a : Atp} (h : AtOk K G H σ Γ v a) (e : Ext G H G' H') (k : ∀ a o, H a = some o → H' a = some o) : AtOk K G' H' σ Γ v a := by
  cases a with
  | k b r => exact fun z hz => e.dn (h z hz)
  | p i ps => obtain ⟨v0, ss, h1, h2, h3⟩ := h; exact ⟨v0, ss, h1, h2, h3.keep k⟩
  | c i ps => obtain ⟨v0, ss, h1, h2, h3⟩ := h; exact ⟨v0, ss, h1, h2, h3.keep k⟩
  | w i => exact h
end
end PD
set_option Elab.async false
set_option linter.all false
set_option maxRecDepth 100000
set_option maxHeartbeats 4000000
set_option autoImplicit false
namespace PD
open PySem PySem.Spec L2
open PyProof.Rows hiding St
inductive AtsOk (K : PySem.W.Frag) (G : Gh) (H : Hp) (σ : L2.St) (Γ : List Sl) : List V → List Atp → Prop
  | nil : AtsOk K G H σ Γ [] []
  | cons {v : V} {vs : List V} {a : Atp} {as : List Atp} : AtOk K G H σ Γ v a → AtsOk K G H σ Γ vs as → AtsOk K G H σ Γ (v :: vs) (a :: as)
theorem AtsOk.split {K : PySem.W.Frag} {G : Gh} {H : Hp} {σ : L2.St} {Γ : List Sl} {a : Atp} {bs : List Atp} : ∀ {as : List Atp} {vs : List V}, AtsOk K G H σ Γ vs (as ++ a :: bs) → ∃ v1 v v2, vs = v1 ++ v :: v2 ∧ AtsOk K G H σ Γ v1 as ∧ AtOk K G H σ Γ v a ∧ AtsOk K G H σ Γ v2 bs
  | [], _, .cons h r => ⟨[], _, _, rfl, .nil, h, r⟩
  | _ :: as, _, .cons h r => by
    obtain ⟨v1, v, v2, rfl, h1, h2, h3⟩ := AtsOk.split (as := as) r
    exact ⟨_ :: v1, v, v2, rfl, .cons h h1, h2, h3⟩
def pPart (i : Nat) (ps : DPs) (Γ : List Sl) : Option (List Stp × Bool × Tre × Tre) := (ps Γ).bind fun ss => (partA Γ i ss).map fun z => (ss, z)
section
variable {X : Cx} {W : WX} {sc : Scope} {N : List Str} {e : Expr} {es : List Expr} {p pos apos : Pos} {x c n : Str} {dvs : List V} {dds : List PyData} {m : List Ar → R (Rs × List Sl)} {a : Atp} {as a1 a2 : List Atp} {i : Nat} {ps : DPs}
end
end PD
set_option Elab.async false
set_option linter.all false
set_option maxRecDepth 100000
set_option maxHeartbeats 4000000
set_option autoImplicit false
namespace PD
open PySem PySem.Spec L2
open PyProof.Rows hiding St
section
variable {X : Cx} {W : WX} {sc : Scope} {N : List Str} {e a b : Expr} {pos p : Pos} {x y : Str} {i : Nat} {ps : DPs} {f : DF}
end
section
variable {X : Cx} {W : WX} {sc : Scope} {N : List Str} {e : Expr} {x : Str} {p apos cpos : Pos} {f : DX}
end
end PD
set_option Elab.async false
set_option linter.all false
set_option maxRecDepth 100000
set_option maxHeartbeats 4000000
set_option autoImplicit false
namespace PD
open PySem PySem.Spec L2
structure Exc0 (K : PySem.W.Frag) (c : Str) : Prop where
  e : PySem.W.excIn K (He.ga K c) [.type "ValueError", .type "Exception", .type "BaseException", .type "object"] "ValueError.__new__" = true
  T : OexC K (He.ga K c)
section
variable {X : Cx} {C : Addr} {bmB : List Value} {B newId initId : String}
end
section
variable {X : Cx} {W : WX} {sc : Scope} {N : List Str} {xs ds hs fs : List Str} {c : Str} {p pos pos2 : Pos}
end
end PD
set_option Elab.async false
set_option linter.all false
set_option maxRecDepth 100000
set_option maxHeartbeats 4000000
set_option autoImplicit false
namespace PD
open PySem PySem.Spec L2
def ovr (H' : Hp) (fp : List Addr) (H : Hp) : Hp := fun b => if b ∈ fp then H' b else H b
theorem ovr_nil {H' H : Hp} : ovr H' [] H = H := by funext b; simp [ovr]
theorem ovr_dup {H' H : Hp} {a : Addr} {fp : List Addr} (h : a ∈ fp) : ovr H' (a :: fp) H = ovr H' fp H := by
  funext b
  unfold ovr
  by_cases e : b = a
  · subst e; simp [h]
  · simp [e]
theorem ovr_cons {H' H : Hp} {a : Addr} {fp : List Addr} {o : HO} (e : H' a = some o) : ovr H' (a :: fp) H = upd (ovr H' fp H) a o := by
  funext b
  by_cases q : b = a
  · subst q; rw [upd_same]; unfold ovr; simp [e]
  · rw [upd_ne q]; unfold ovr; simp [q]
theorem Sta.hold {K : PySem.W.Frag} {G : Gh} {H H' : Hp} {σ : L2.St} {Γ : List Sl} (S : Sta K G H σ Γ) : ∀ {fp : List Addr}, (∀ a ∈ fp, H a = none ∧ H' a ≠ none) → Sta K ⟨G.H0, G.P, G.I, G.N, ovr H' fp G.E⟩ (ovr H' fp H) σ Γ ∧ TupLe H (ovr H' fp H)
  | [], _ => by rw [ovr_nil, ovr_nil]; exact ⟨S, TupLe.rf _⟩
  | a :: fp, h => by
    obtain ⟨S1, t1⟩ := Sta.hold S (fp := fp) fun b hb => h b (by simp [hb])
    by_cases ha : a ∈ fp
    · rw [ovr_dup ha, ovr_dup ha]; exact ⟨S1, t1⟩
    · obtain ⟨h1, h2⟩ := h a (by simp)
      cases e : H' a with
      | none => exact absurd e h2
      | some o =>
        obtain ⟨S2, t2⟩ := S1.pin (D := a) (o := o) (by unfold ovr; rw [if_neg ha]; exact h1)
        rw [ovr_cons e, ovr_cons e]
        exact ⟨S2, t1.tr t2⟩
section
variable {X : Cx} {W : WX} {e1 e2 : Expr} {pos : Pos} {f1 f2 : DX}
end
end PD
set_option Elab.async false
set_option linter.all false
set_option maxRecDepth 100000
set_option maxHeartbeats 4000000
set_option autoImplicit false
namespace PD
open PySem PySem.Spec L2
section
variable {X : Cx} {W : WX} {sc : Scope} {N : List Str} {e : Expr} {k : DA} {p pos : Pos}
end
end PD
namespace PD
open PySem PySem.Spec L2
def rC (d : PyData) : DK := fun _ => some (true, d)
end PD
set_option Elab.async false
set_option linter.all false
set_option maxRecDepth 100000
set_option maxHeartbeats 4000000
set_option autoImplicit false
namespace PD
open PySem PySem.Spec L2
open PyProof.Rows hiding St
section
variable {X : Cx} {W : WX} {sc : Scope} {N : List Str} {cl : List (Str × List Str)} {x n : Str} {e : Expr} {p pos pos' : Pos} {f : DX}
end
end PD
set_option Elab.async false
set_option linter.all false
set_option maxRecDepth 100000
set_option maxHeartbeats 4000000
set_option autoImplicit false
namespace PD
open PySem PySem.Spec L2
open PyProof.Rows hiding St
structure GD (K : PySem.W.Frag) (w : World) (mg : Str → Option Value) (x : Str) (kvs : List (Str × Int)) : Prop where
  g : mg x = some (.ref (He.ga K x))
  d : ∃ es n, KDict K w (He.ga K x) es n
  y : ∀ q ∈ kvs, ∃ u, PySem.W.nsIn K (He.ga K x) q.1 = some (some u) ∧ RelV (.int q.2) u
  no : ∀ z, z ∉ kvs.map (·.1) → PySem.W.nsIn K (He.ga K x) z = some none
section
variable {X : Cx} {W : WX} {sc : Scope} {N : List Str} {e o : Expr} {p pos apos : Pos} {f : DF} {x : Str} {kvs : List (Str × Int)}
end
end PD
set_option Elab.async false
set_option linter.all false
set_option maxRecDepth 100000
set_option maxHeartbeats 4000000
set_option autoImplicit false
namespace PD
open PySem PySem.Spec L2
def obsXT (fx : List (PySem.W.Frag → Bool)) (fa : List He.Fa) (fn : List He.DefD) (ts : List He.Tab) (K : PySem.W.Frag) : He.AlT := (obsX fx fa fn K, ts.map fun t => He.dicW K (t.1 K))
def valXT (fn : List He.DefD) (ts : List He.Tab) (w : World) : He.AlT := (He.valD fn, ts.map fun t => some (He.keysIn w.params t.2))
def SaysXT (fx : List (PySem.W.Frag → Bool)) (fa : List He.Fa) (fn : List He.DefD) (ts : List He.Tab) (w : World) (K : PySem.W.Frag) : Prop := obsXT fx fa fn ts K = valXT fn ts w
section
variable {fx : List (PySem.W.Frag → Bool)} {fa : List He.Fa} {fn : List He.DefD} {ts : List He.Tab} {w : World} {K : PySem.W.Frag}
theorem SaysXT.s (c : SaysXT fx fa fn ts w K) : SaysX fx fa fn K := congrArg (fun z : He.AlT => z.1) c
theorem SaysXT.d (c : SaysXT fx fa fn ts w K) : He.SaysD fa fn K := c.s.d
theorem SaysXT.x (c : SaysXT fx fa fn ts w K) (i : Nat) {f : PySem.W.Frag → Bool} (h : fx[i]? = some f := by rfl) : f K = true := c.s.x i h
end
end PD
set_option Elab.async false
set_option linter.all false
set_option maxRecDepth 100000
set_option maxHeartbeats 4000000
set_option autoImplicit false
namespace PD
open PySem PySem.Spec L2
open PyProof.Rows hiding St
section
variable {X : Cx}
end
section
variable {X : Cx} {W : WX} {sc : Scope} {N : List Str} {a b : Expr} {pos : Pos} {f g : DF}
end
end PD
set_option Elab.async false
set_option linter.all false
set_option maxRecDepth 100000
set_option maxHeartbeats 4000000
set_option autoImplicit false
namespace PD
open PySem PySem.Spec PyProof.Rows L2
open L2H (RoomH HotC Hot1 PIH PIEH TurnH)
abbrev pnX (B : Cx) (q : Addr × Obj) : Cx := { B with pn := [q] }
section
variable {B : Cx} {q : Addr × Obj} {ps : List (Addr × Obj)} {st : L2.St} {M : Hp} {z : Shared}
end
section
variable {X : Cx}
end
end PD
set_option Elab.async false
set_option linter.all false
set_option maxRecDepth 100000
set_option maxHeartbeats 4000000
set_option autoImplicit false
namespace PD
open PySem PySem.Spec PyProof.Rows L2 HotX
open L2H (RoomH HotC Hot1 PIH PIEH TurnH)
section
variable {prog : Program} {w : World} {A : Around} {E : Value → Shared → Prop} {s : Shared}
end
section
variable {X : Cx} {W : WX} {sc : Scope} {N : List Str}
structure CfH (X : Cx) (W : WX) (sc : Scope) (N : List Str) : Prop extends Cf0 X W sc N where
  hot : HotC X
  no : ∀ c d σ H, ¬ W c d σ H
def CIH (X : Cx) (W : WX) (tg iter : Expr) (f : DI) : Prop := ∀ Γ, PIH X tg iter (rdIU X W Γ (f Γ))
variable {e tg iter : Expr} {f : DF} {pos p : Pos}
end
end PD
set_option Elab.async false
set_option linter.all false
set_option maxRecDepth 100000
set_option maxHeartbeats 4000000
set_option autoImplicit false
namespace PD
open PySem PySem.Spec PyProof.Rows L2
open L2H (RoomH HotC Hot1 PIH PIEH TurnH)
section
variable {X : Cx}
variable {W : WX} {sc : Scope} {N : List Str}
theorem CfH.blk (C : CfH X W sc N) {s : Shared} {H : Hp} {scope : Scope} {cl : List (Str × Addr)} {c : Addr} {fp : List Addr} {p : Addr × Obj} (h1 : Hot1 X.A p) : CfH (pnX (X.blk s H scope (compEnvC scope cl c X.env) fp) p) WF (relS scope sc) N := by
  refine ⟨⟨?_, C.hN, C.nd, takes0N, C.hu, PassesOwn.never, C.hu2⟩, ⟨p, h1, List.mem_singleton.mpr rfl⟩, fun _ _ _ _ h => h⟩
  show relabel scope X.env = relS scope sc
  rw [← C.hsc]
  rfl
structure CompH (X : Cx) (W : WX) (sc : Scope) (N : List Str) (tg iter elt : Expr) (ifs : List Expr) (scope : Scope) (own : List (Str × Nat)) (ts : List Nat) (g : DG) (it : DI) (t : DT) (e : DF) : Prop where
  hin : CIH X W tg iter it
  ok : blkC N sc scope own = true
  hg : ∀ p, Hot1 X.A p → p ∈ X.pn → ∀ s H c cl fp, CG (pnX (X.blk s H scope (compEnvC scope cl c X.env) fp) p) tg ts g
  ht : ∀ p, Hot1 X.A p → p ∈ X.pn → ∀ s H c cl fp, CTs (pnX (X.blk s H scope (compEnvC scope cl c X.env) fp) p) WF ifs t
  he : ∀ p, Hot1 X.A p → p ∈ X.pn → ∀ s H c cl fp, CE (pnX (X.blk s H scope (compEnvC scope cl c X.env) fp) p) WF elt e
  hts : ∀ j ∈ ts, j ∈ own.map (·.2)
  hs : ∀ x, foldedSetIterable iter X.env x = pure x
variable {tg iter elt : Expr} {ifs : List Expr} {scope : Scope} {own : List (Str × Nat)} {pos : Pos} {it : DI} {g : DG} {t : DT} {e : DF} {ts : List Nat}
end
end PD
set_option Elab.async false
set_option linter.all false
set_option maxRecDepth 100000
set_option maxHeartbeats 4000000
set_option autoImplicit false
namespace PD
open PySem PySem.Spec PyProof.Rows L2 HotX
open L2H (RoomH HotC Hot1 PIH PIEH TurnH)
section
variable {P : Program} {w : World} {A : Around} {E : Value → Shared → Prop} {s : Shared}
end
section
variable {X : Cx}
end
section
variable {X : Cx} {W : WX} {sc : Scope} {N : List Str} {a e e2 tg iter : Expr} {es : List Expr} {pos p : Pos} {f g : DF} {k : DA}
end
end PD
set_option Elab.async false
set_option linter.all false
set_option maxRecDepth 100000
set_option maxHeartbeats 4000000
set_option autoImplicit false
namespace PD
open PySem PySem.Spec PyProof.Rows L2
open L2H (RoomH HotC Hot1 PIH PIEH TurnH)
def spN (sp : Sp) : Sp := fun vs H Q E => (∀ c d G, ¬ E c d G) ∧ sp vs H Q E
structure HereH (X : Cx) (W : WX) (P : Program) (w : World) (K : PySem.W.Frag) (mg : Str → Option Value) (base : Heap) (scope : Scope) (N : List Str) (k : Nat) : Prop where
  cf : CfH X W scope N
  prog : X.prog = P
  w : X.w = w
  K : X.K = K
  mg : X.mg = mg
  base : X.base = base
  room : RoomH k X.A
  fn : ∀ x, X.fn x = true
section
variable {P : Program} {w : World} {K : PySem.W.Frag} {mg : Str → Option Value} {base : Heap} {N ps : List Str} {name qual : Str} {scope : Scope} {f : Addr} {k : Nat} {params : Arguments} {body : List Stmt} {dvs : List V} {kws : List (Str × V)} {fd : FuncData}
end
def CleeH (X : Cx) (x : Str) (dvs : List V) (sp : Sp) : Prop :=
  ∃ (k : Nat) (f : Addr) (fd : FuncData) (ps : List Str) (ds : List Value), L2H.FnH X.prog X.w X.K X.mg X.base (L2N.CX X.prog X.w) k f fd ps (spN sp) ∧ RoomH k X.A ∧ X.mg x = some (.ref f) ∧ PySem.W.keepIn X.K (.ref f) = true ∧ Binds X.K fd ps ds ∧ Vals dvs ds
def CleeMH (X : Cx) (c mn : Str) (dvs : List V) (sp : Sp) : Prop :=
  ∃ (k : Nat) (f : Addr) (fd : FuncData) (ps : List Str) (ds : List Value), L2H.FnH X.prog X.w X.K X.mg X.base (L2N.CX X.prog X.w) k f fd ps (spN sp) ∧ RoomH k X.A ∧ Cls X.K (He.ga X.K c) ∧ Meth X.K (He.ga X.K c) mn f ∧ Binds X.K fd ps ds ∧ Vals dvs ds
def GvH (P : Program) (w : World) (K : PySem.W.Frag) (mg : Str → Option Value) (base : Heap) (k : Nat) (x : Str) (dvs : List V) (sp : Sp) : Prop :=
  ∃ (f : Addr) (fd : FuncData) (ps : List Str) (ds : List Value), L2H.FnH P w K mg base (L2N.CX P w) k f fd ps (spN sp) ∧ mg x = some (.ref f) ∧ PySem.W.keepIn K (.ref f) = true ∧ Binds K fd ps ds ∧ Vals dvs ds
def GvMH (P : Program) (w : World) (K : PySem.W.Frag) (mg : Str → Option Value) (base : Heap) (k : Nat) (c mn : Str) (dvs : List V) (sp : Sp) : Prop :=
  ∃ (f : Addr) (fd : FuncData) (ps : List Str) (ds : List Value), L2H.FnH P w K mg base (L2N.CX P w) k f fd ps (spN sp) ∧ Cls K (He.ga K c) ∧ Meth K (He.ga K c) mn f ∧ Binds K fd ps ds ∧ Vals dvs ds
section
variable {P : Program} {w : World} {K : PySem.W.Frag} {mg : Str → Option Value} {base : Heap} {k k' : Nat} {x c mn : Str} {dvs : List V} {sp : Sp} {X : Cx} {W : WX} {scope : Scope} {N fs ps : List Str} {fd : FuncData} {ds : List Value} {m : List Ar → R (Rs × List Sl)}
theorem GvMH.of (I : InsC K c fs) (hm : methB K c mn = true) (ok : L2H.FnH P w K mg base (L2N.CX P w) k (He.fAd K (c, some mn)) fd ps (spN sp)) (b : Binds K fd ps ds) (hv : Vals dvs ds) : GvMH P w K mg base k c mn dvs sp :=
  ⟨_, fd, ps, ds, ok, I.cls, methB_ok hm, b, hv⟩
theorem GvH.u (g : GvH P w K mg base k x dvs (spU K mg m)) (h : HereH X W P w K mg base scope N k') (hk : k ≤ k') : CleeH X x dvs (spU X.K X.mg m) := by
  obtain ⟨f, fd, ps, ds, h1, h2, h3, h4, h5⟩ := g
  have e1 := h.prog
  have e2 := h.w
  have e3 := h.K
  have e4 := h.mg
  have e5 := h.base
  subst e1 e2 e3 e4 e5
  exact ⟨k, f, fd, ps, ds, h1, h.room.mono hk, h2, h3, h4, h5⟩
theorem GvMH.u (g : GvMH P w K mg base k c mn dvs (spU K mg m)) (h : HereH X W P w K mg base scope N k') (hk : k ≤ k') : CleeMH X c mn dvs (spU X.K X.mg m) := by
  obtain ⟨f, fd, ps, ds, h1, h2, h3, h4, h5⟩ := g
  have e1 := h.prog
  have e2 := h.w
  have e3 := h.K
  have e4 := h.mg
  have e5 := h.base
  subst e1 e2 e3 e4 e5
  exact ⟨k, f, fd, ps, ds, h1, h.room.mono hk, h2, h3, h4, h5⟩
theorem GvH.us (g : GvH P w K mg base k x dvs (spU K mg m)) (h : Here X W P w K mg base scope N k') (hk : k ≤ k') (a : Addr) (pn : List (Addr × Obj)) : CleeH (X.suite a pn) x dvs (spU X.K X.mg m) := by
  obtain ⟨f, fd, ps, ds, h1, h2, h3, h4, h5⟩ := g
  have e1 := h.prog
  have e2 := h.w
  have e3 := h.K
  have e4 := h.mg
  have e5 := h.base
  subst e1 e2 e3 e4 e5
  have r := (L2H.roomH_of h.room).mono hk
  exact ⟨k, f, fd, ps, ds, h1, ⟨r.dp, r.un⟩, h2, h3, h4, h5⟩
theorem GvMH.us (g : GvMH P w K mg base k c mn dvs (spU K mg m)) (h : Here X W P w K mg base scope N k') (hk : k ≤ k') (a : Addr) (pn : List (Addr × Obj)) : CleeMH (X.suite a pn) c mn dvs (spU X.K X.mg m) := by
  obtain ⟨f, fd, ps, ds, h1, h2, h3, h4, h5⟩ := g
  have e1 := h.prog
  have e2 := h.w
  have e3 := h.K
  have e4 := h.mg
  have e5 := h.base
  subst e1 e2 e3 e4 e5
  have r := (L2H.roomH_of h.room).mono hk
  exact ⟨k, f, fd, ps, ds, h1, ⟨r.dp, r.un⟩, h2, h3, h4, h5⟩
theorem CleeH.blk (h : CleeH X x dvs sp) {s : Shared} {H : Hp} {scope : Scope} {ce : Env} {fp : List Addr} {p : Addr × Obj} : CleeH (pnX (X.blk s H scope ce fp) p) x dvs sp := h
theorem CleeMH.blk (h : CleeMH X c mn dvs sp) {s : Shared} {H : Hp} {scope : Scope} {ce : Env} {fp : List Addr} {p : Addr × Obj} : CleeMH (pnX (X.blk s H scope ce fp) p) c mn dvs sp := h
end
section
variable {X : Cx} {W : WX} {sc : Scope} {N : List Str} {x c n : Str} {e o : Expr} {es : List Expr} {p pos apos : Pos} {k : DA} {fe : DF} {dvs : List V} {dds : List PyData} {m : List Ar → R (Rs × List Sl)} {t : TA}
end
end PD
set_option Elab.async false
set_option linter.all false
set_option maxRecDepth 100000
set_option maxHeartbeats 4000000
set_option autoImplicit false
namespace PD
open PySem PySem.Spec L2
end PD
set_option Elab.async false
set_option linter.all false
set_option maxRecDepth 100000
set_option maxHeartbeats 4000000
set_option autoImplicit false
namespace PD
open PySem PySem.Spec L2
open PyProof.Rows hiding St
section
variable {X : Cx} {W : WX} {sc : Scope} {N : List Str} {e a b : Expr} {pos p cp : Pos} {x y : Str} {i : Nat} {ps : DPs} {f : DF}
def lfB : Tre → Bool
  | .d _ => true
  | _ => false
theorem TreOk.lf {K : PySem.W.Frag} {G : Rg} {H : Hp} {v : V} {fp : List Addr} {t : Tre} (h : TreOk K G H v fp t) (q : lfB t = true) : fp = [] := by
  cases h with
  | d _ => rfl
  | _ => cases q
def dAppP (i : Nat) (ps : DPs) (r : DK) : DF := fun Γ => (R.ofO (pPart i ps Γ)).bind fun w => (R.ofO (r Γ)).bind fun z => (R.req (z.1 || flat z.2)).bind fun _ => match w.2.2.2 with
  | .lst us => (R.req (ltS us)).bind fun _ => .val (.d true .none, Γ.set i (mkS w.2.1 (.tr (w.2.2.1.put w.1 (.lst (us ++ [.d z.2]))))))
  | _ => .bad
theorem ce_appP (C : Cf0 X W sc N) (i : Nat) (ps : DPs) {r : DK} {o : Expr} {apos cpos : Pos} (ho : CPt X W o i ps) (he : CPu X W e r) (hs : starEach [e] X.env = (false, eval e X.env) :: starEach [] X.env := by rfl)
    (hline : (apos.endLine == cpos.line) = true := by rfl) (hbase : attributeBase o "append" X.env (eval o X.env) = eval o X.env := by rfl) :
    CE X W (.Call (.Attribute o "append" apos) [e] [] cpos) (dAppP i ps r) := fun Γ => by
  unfold dAppP
  cases hw : pPart i ps Γ with
  | none => exact ev_bad
  | some w =>
  cases hr : r Γ with
  | none => exact ev_bad
  | some z =>
  obtain ⟨ss, hss, hw'⟩ := Option.bind_eq_some_iff.mp hw
  obtain ⟨q0, hz, rfl⟩ := Option.map_eq_some_iff.mp hw'
  refine pe_imp (pe_bm PySem.F.plainAttrs_list PySem.F.slot_list_append PySem.F.type_list_append mt_append (ho Γ ss hss) (pa_cons (he Γ z hr) pa_nil hs) hbase (by rw [hs]; rfl) hline hs rfl) fun σ H Q ⟨G, S, pp⟩ => ?_
  obtain ⟨v0, v', fp, g1, gp, g2, g3, g4, g5, g7, g6⟩ := S.partU hz
  obtain ⟨hc, pp⟩ := Pst.req (show Pst X W G H σ ((R.req (z.1 || flat z.2)).bind fun _ => match q0.2.2 with
    | .lst us => (R.req (ltS us)).bind fun _ => .val (AV.d true .none, Γ.set i (mkS q0.1 (.tr (q0.2.1.put ss (.lst (us ++ [.d z.2]))))))
    | _ => .bad) _ from pp)
  split at pp
  · rename_i us hu
    obtain ⟨hsz, pp⟩ := Pst.req pp
    rw [hu] at g2
    cases g2 with
    | lst hp ht hn =>
      rename_i a vs fr
      refine ⟨G, S, v0, _, g1, gp, .inl ⟨rfl, vs, SqL.of hp⟩, G, H, S, fun _ _ z => z, fun u hu2 => ?_⟩
      have hu3 : Dn X.K (RgN G) H u z.2 := by
        obtain ⟨fr0, d⟩ := z
        cases fr0 with
        | true => exact hu2
        | false => exact hu2.free hc
      have hv : vs.length < sizeLine := by rw [ht.length]; exact of_decide_eq_true hsz
      refine ⟨a, vs, u, rfl, rfl, hp, hv, ?_⟩
      have t := tup_mut (o' := .lst (vs ++ [u])) hp (fun xs z => by cases z)
      have hN : ∀ b o, G.N b = some o → b ≠ a := fun b o e z' => g4 true b o e (by rw [z']; simp)
      have tr0 : TresOk X.K (RgN G) (upd H a (.lst (vs ++ [u]))) vs fr us := TresOk.mono (fun _ _ z => z) t ht fun b hb => upd_ne fun e => hn (e ▸ hb)
      have tr := TresOk.snoc (hu3.mono (fun _ _ z => z) t) tr0
      have ne : ∀ b ∈ a :: fr, upd H a (.lst (vs ++ [u])) b ≠ none := fun b hb => by
        by_cases z : b = a
        · rw [z, upd_same]; simp
        · rw [upd_ne z]; exact g3 b hb
      obtain ⟨G', S', e', _⟩ := g6 (upd H a (.lst (vs ++ [u]))) G.N (a :: fr) (.lst (us ++ [.d z.2])) (fun b o e hb => by rw [upd_ne (fun z => hb (by simp [z]))]; exact e) ne t (fun b o e => ⟨by rw [upd_ne (hN b o e)]; exact (S.w.new b o e).1, .inr e⟩) (.lst upd_same tr hn) (fun b hb => ⟨ne b hb, by
        cases q' : G.N b with
        | none => rfl
        | some o => exact absurd hb (g4 true b o q'), .inl hb⟩)
      exact pp G' _ e' .non S' .non
  · exact pp.elim
end
end PD
set_option Elab.async false
set_option linter.all false
set_option maxRecDepth 100000
set_option maxHeartbeats 4000000
set_option autoImplicit false
namespace PD
open PySem PySem.Spec L2
open PyProof.Rows (AllBare)
inductive De
  | f (m : DF)
  | e
section
variable {X : Cx} {W : WX} {sc : Scope} {N : List Str} {pos : Pos}
variable {x : Str} {c : Value} {body suite : List Stmt} {b0 : Stmt} {np pos2 : Pos} {nm : Option Str} {tb : WX → TS} {Wout : WX}
end
end PD
set_option Elab.async false
set_option linter.all false
set_option maxRecDepth 100000
set_option maxHeartbeats 4000000
set_option autoImplicit false
namespace PD
open PySem PySem.Spec L2
open PyProof.Rows (AllBare)
open L2H (RoomH HotC Hot1 PIH PIEH TurnH)
section
variable {X : Cx} {W : WX} {sc : Scope} {N : List Str} {xs ds hs fs fns : List Str} {c : Str} {e : Expr} {es : List Expr} {k : DA} {p pos pos2 : Pos} {t : TA}
end
section
variable {X : Cx} {W : WX} {sc : Scope} {N : List Str} {pos : Pos} {x : Str} {c : Value} {body suite : List Stmt} {b0 : Stmt} {np pos2 : Pos} {tb : WX → TS} {Wout : WX}
end
end PD
set_option Elab.async false
set_option linter.all false
set_option maxRecDepth 100000
set_option maxHeartbeats 4000000
set_option autoImplicit false
namespace PD
open PySem PySem.Spec L2
open PyProof.Rows (AllBare)
open L2H (RoomH HotC Hot1 PIH PIEH TurnH)
section
variable {X : Cx} {W : WX} {sc : Scope} {N : List Str} {pos : Pos} {x n : Str} {i : Nat} {c : Value} {body suite : List Stmt} {b0 : Stmt} {np pos2 : Pos} {tb : WX → TS} {ts : Addr → Value → Option Addr → TS} {Wout : WX}
end
end PD
set_option Elab.async false
set_option linter.all false
set_option maxRecDepth 100000
set_option maxHeartbeats 4000000
set_option autoImplicit false
namespace PD
open PySem PySem.Spec L2
open PyProof.Rows hiding St
section
variable {X : Cx} {CX : CXT} {k n : Nat} {f C : Addr} {fd : FuncData} {ps ks : List Str} {sp : Sp} {E : L2.St → XK} {x : Str} {p pos : Pos} {e : Expr} {es : List Expr} {kws : List Keyword} {t tk : TA} {g : List Value → List Value → List Value} {gV : List V → List V → List V}
end
def CleeIP (X : Cx) (c : Str) (n : Nat) (ks : List Str) (pm : List Nat) (dvs : List V) (sp : Sp) : Prop :=
  ∃ (k : Nat) (f : Addr) (fd : FuncData) (ps : List Str) (its : List Value), FnOk X.prog X.w X.K X.mg X.base (L2N.CX X.prog X.w) k f fd ps sp ∧ Room (k + 1) X.A ∧ X.mg c = some (.ref (He.ga X.K c)) ∧ Mk X.K (He.ga X.K c) f ∧ KBn X.K fd ps (n + 1) ks (fun us ws => pickP (0 :: pm.map (· + 1)) (us ++ ws ++ its)) (fun vs zs => pickP (0 :: pm.map (· + 1)) (vs ++ zs ++ dvs))
def GvIP (P : Program) (w : World) (K : PySem.W.Frag) (mg : Str → Option Value) (base : Heap) (k : Nat) (c : Str) (n : Nat) (ks : List Str) (pm : List Nat) (dvs : List V) (sp : Sp) : Prop :=
  ∃ (f : Addr) (fd : FuncData) (ps : List Str) (its : List Value), FnOk P w K mg base (L2N.CX P w) k f fd ps sp ∧ mg c = some (.ref (He.ga K c)) ∧ Mk K (He.ga K c) f ∧ KBn K fd ps (n + 1) ks (fun us ws => pickP (0 :: pm.map (· + 1)) (us ++ ws ++ its)) (fun vs zs => pickP (0 :: pm.map (· + 1)) (vs ++ zs ++ dvs))
theorem GvIP.u {P : Program} {w : World} {K : PySem.W.Frag} {mg : Str → Option Value} {base : Heap} {k k' n : Nat} {c : Str} {ks : List Str} {pm : List Nat} {dvs : List V} {m : List Ar → R (Rs × List Sl)} {X : Cx} {W : WX} {scope : Scope} {N : List Str} (g : GvIP P w K mg base k c n ks pm dvs (spU K mg m)) (h : Here X W P w K mg base scope N k') (hk : k + 1 ≤ k') : CleeIP X c n ks pm dvs (spU X.K X.mg m) := by
  obtain ⟨f, fd, ps, its, h1, h2, h3, h4⟩ := g
  have e1 := h.prog
  have e2 := h.w
  have e3 := h.K
  have e4 := h.mg
  have e5 := h.base
  subst e1 e2 e3 e4 e5
  exact ⟨k, f, fd, ps, its, h1, h.room.mono hk, h2, h3, h4⟩
theorem GvIP.of {P : Program} {w : World} {K : PySem.W.Frag} {mg : Str → Option Value} {base : Heap} {k n : Nat} {c : Str} {fs ps ks : List Str} {pm : List Nat} {dvs : List V} {sp : Sp} {fd : FuncData} {its : List Value} (I : InsC K c fs) (hm : methB K c "__init__" = true) (hg : mg c = some (.ref (He.ga K c))) (ok : FnOk P w K mg base (L2N.CX P w) k (He.fAd K (c, some "__init__")) fd ps sp)
    (b : KBn K fd ps (n + 1) ks (fun us ws => pickP (0 :: pm.map (· + 1)) (us ++ ws ++ its)) (fun vs zs => pickP (0 :: pm.map (· + 1)) (vs ++ zs ++ dvs))) : GvIP P w K mg base k c n ks pm dvs sp :=
  ⟨_, fd, ps, its, ok, hg, ⟨I.mks, (methB_ok hm).at_, (methB_ok hm).fn, I.kp⟩, b⟩
section
variable {X : Cx} {W : WX} {sc : Scope} {N : List Str} {c : Str} {e : Expr} {es : List Expr} {p pos : Pos} {k kk : DA} {dvs : List V} {dds : List PyData} {m : List Ar → R (Rs × List Sl)} {ms : List Bool} {n : Nat} {ks : List Str} {pm : List Nat} {kws : List Keyword}
end
end PD
set_option Elab.async false
set_option linter.all false
set_option maxRecDepth 100000
set_option maxHeartbeats 4000000
set_option autoImplicit false
namespace PD
open PySem L2
inductive Ats where
  | v (i : Nat)
  | s (i j : Nat)
def AtS (σ : St) : Ats → V → Prop
  | .v i, v => σ[i]? = some (some v)
  | .s i j, v => ∃ a b, σ[i]? = some (some (.int a)) ∧ σ[j]? = some (some (.int b)) ∧ v = .int (a - b)
inductive AtSs (σ : St) : List Ats → List V → Prop
  | nil : AtSs σ [] []
  | cons {a : Ats} {as : List Ats} {v : V} {vs : List V} : AtS σ a v → AtSs σ as vs → AtSs σ (a :: as) (v :: vs)
section
variable {X : Cx} {W : WX} {sc : Scope} {N : List Str} {e : Expr} {es : List Expr} {as : List Ats} {x y : Str} {p p2 pos : Pos}
end
section
variable {X : Cx} {W : WX} {sc : Scope} {N : List Str} {e : Expr} {es : List Expr} {is : List Ats} {x : Str} {p pos : Pos} {m : List Ar → R (Rs × List Sl)} {n0 : DC}
end
end PD
set_option Elab.async false
set_option linter.all false
set_option maxRecDepth 100000
set_option maxHeartbeats 4000000
set_option autoImplicit false
namespace PD
open PySem PySem.Spec L2
open PyProof.Rows hiding St
theorem StaA.cell {K : PySem.W.Frag} {G : Gh} {H : Hp} {σ : L2.St} {Γ : List Sl} {A : Nat → List Addr} (T : StaA K G H σ Γ A) {j : Nat} {b : Bool} {c : Cl} (h : cellAt Γ j = some (b, c)) : ∃ u, σ[j]? = some (some u) ∧ c.ok K (RgN G) H u (A j) := by
  have old := T.sl j _ (cellAt_ok h)
  cases b with
  | true =>
    obtain ⟨u, h1, h2, h3⟩ := old
    exact ⟨u, h1, h3⟩
  | false =>
    obtain ⟨u, h1, h2, h3⟩ := old
    exact ⟨u, h1, h3⟩
section
variable {X : Cx} {W : WX} {sc : Scope} {N : List Str} {e : Expr} {es : List Expr} {p pos : Pos} {x : Str} {m : List Ar → R (Rs × List Sl)} {j i1 i2 : Nat} {ps1 ps2 : DPs}
end
end PD
set_option Elab.async false
set_option linter.all false
set_option maxRecDepth 100000
set_option maxHeartbeats 4000000
set_option autoImplicit false
namespace PD
open PySem PySem.Spec L2
section
variable {X : Cx} {W : WX} {sc : Scope} {N : List Str} {e a b : Expr} {pos p : Pos} {x y : Str} {i : Nat} {ps : DPs} {f : DF}
end
end PD
set_option Elab.async false
set_option linter.all false
set_option maxRecDepth 100000
set_option maxHeartbeats 4000000
set_option autoImplicit false
namespace PD
open PySem PySem.Spec L2
section
variable {X : Cx} {W : WX} {sc : Scope} {N : List Str} {e a b : Expr} {pos p : Pos} {i : Nat} {ps : DPs} {r : DK} {c : Int}
end
end PD
set_option Elab.async false
set_option linter.all false
set_option maxRecDepth 100000
set_option maxHeartbeats 4000000
set_option autoImplicit false
namespace PD
open PySem PySem.Spec L2
section
variable {X : Cx} {W : WX} {e : Expr} {f : DF}
end
end PD
set_option Elab.async false
set_option linter.all false
set_option maxRecDepth 100000
set_option maxHeartbeats 4000000
set_option autoImplicit false
namespace PD
open PySem PySem.Spec L2
section
variable {X : Cx} {W : WX} {sc : Scope} {N : List Str} {e : Expr} {pos : Pos} {f : DF}
end
end PD
set_option Elab.async false
set_option linter.all false
set_option maxRecDepth 100000
set_option maxHeartbeats 4000000
set_option autoImplicit false
namespace SrtK
open PySem PySem.W PySem.Calls PyProof.Rows
section
variable {prog : Program} {w : World} {A : Around} {E : Value → Shared → Prop} {a : Addr} {vs : List Value} {kz : List PyData} {f : Value} {P : PySem.Fin → Shared → Prop}
end
end SrtK
namespace PD
open PySem L2
section
open PySem.W PySem.Calls PyProof.Rows
variable {X : Cx} {pins : List (Addr × Obj)} {σ : L2.St} {H : Hp} {s : Shared} {Q : VK}
end
end PD
set_option Elab.async false
set_option linter.all false
set_option maxRecDepth 100000
set_option maxHeartbeats 4000000
set_option autoImplicit false
namespace PD
open PySem PySem.Spec L2
def spW (K : PySem.W.Frag) (mg : Str → Option Value) (m : List Ar → R (Rs × List Sl)) (j : Nat) : Sp := fun vs H Q E => spU K mg m vs H (fun _ H' => ∀ v, vs[j]? = some v → Q v H') E
def bW (i : Nat) (b : DS) : DS := fun Γ => match Γ[i]? with
  | some (.io _) => (b Γ).bind fun z => match z.1, z.2[i]? with
    | .nx, some (.io _) => .val (.nx, z.2)
    | _, _ => .bad
  | _ => .bad
section
variable {P : Program} {w : World} {K : PySem.W.Frag} {mg : Str → Option Value} {base : Heap} {x y qual : Str} {params : Arguments} {s1 : Stmt} {scope : Scope} {dvs : List V} {kws : List (Str × V)} {f : Addr} {fd : FuncData} {N ps : List Str} {k : Nat} {p1 pos : Pos}
theorem start_some {N : List Str} {vs : List V} {i : Nat} {v : V} (h : (L2.start N vs)[i]? = some (some v)) : vs[i]? = some v := by
  unfold L2.start at h
  by_cases hl : i < vs.length
  · rw [List.getElem?_append_left (by simpa using hl), List.getElem?_map] at h
    cases hv : vs[i]? with
    | none => rw [hv] at h; cases h
    | some u => rw [hv] at h; cases h; rfl
  · rw [List.getElem?_append_right (by simpa using hl), List.getElem?_replicate] at h
    split at h
    · cases h
    · cases h
end
end PD
set_option Elab.async false
set_option linter.all false
set_option maxRecDepth 100000
set_option maxHeartbeats 4000000
set_option autoImplicit false
namespace PD
open PySem L2
def rdCsM (Γ : List Sl) (I : List Nat) : List Bool → List Bool → List AV → Option (List Ar)
  | _, _, [] => some []
  | ks, cs, .d fr x :: as => if cs.headD false then none else if ks.headD false then (if fr then (rdCsM Γ I ks.tail cs.tail as).map (.n x :: ·) else none) else (rdCsM Γ I ks.tail cs.tail as).map (.d x :: ·)
  | ks, cs, .s j :: as => if cs.headD false then (cellAt Γ j).bind fun ic => (rdCsM Γ I ks.tail cs.tail as).map (.c ic.2 :: ·)
      else if j ∈ I then none else (rdW Γ j).bind fun x => (rdCsM Γ I ks.tail cs.tail as).map (.d x :: ·)
def RdAtM (Γ : List Sl) (I : List Nat) (cs : List Bool) (as : List AV) (ars : List Ar) (i : Nat) : Prop :=
  (as[i]? = none ∧ ars[i]? = none) ∨ (∃ fr x, as[i]? = some (.d fr x) ∧ ars[i]? = some (.d x)) ∨ (∃ x, as[i]? = some (.d true x) ∧ ars[i]? = some (.n x)) ∨ (∃ j ic, as[i]? = some (.s j) ∧ cs.getD i false = true ∧ cellAt Γ j = some ic ∧ ars[i]? = some (.c ic.2)) ∨
    (∃ j x, as[i]? = some (.s j) ∧ cs.getD i false = false ∧ j ∉ I ∧ rdW Γ j = some x ∧ ars[i]? = some (.d x))
theorem RdAtM.succ {Γ : List Sl} {I : List Nat} {cs : List Bool} {a : AV} {as : List AV} {y : Ar} {ars : List Ar} {i : Nat} (h : RdAtM Γ I cs.tail as ars i) : RdAtM Γ I cs (a :: as) (y :: ars) (i + 1) := by
  unfold RdAtM at h ⊢
  rw [getD_tail]
  simpa using h
theorem rdCsM_get {Γ : List Sl} {I : List Nat} : ∀ {as : List AV} {ks cs : List Bool} {ars : List Ar}, rdCsM Γ I ks cs as = some ars → ars.length = as.length ∧ ∀ i, RdAtM Γ I cs as ars i
  | [], ks, cs, ars, h => by
    have h : some [] = some ars := by cases cs <;> cases ks <;> exact h
    cases h
    exact ⟨rfl, fun i => .inl ⟨by simp, by simp⟩⟩
  | .d fr x :: as, ks, cs, ars, h => by
    unfold rdCsM at h
    split at h
    · cases h
    · split at h
      · split at h
        · rename_i hfr
          obtain rfl : fr = true := hfr
          cases e : rdCsM Γ I ks.tail cs.tail as with
          | none => rw [e] at h; cases h
          | some xs =>
            rw [e] at h
            cases h
            obtain ⟨l, g⟩ := rdCsM_get e
            refine ⟨by simp [l], fun i => ?_⟩
            cases i with
            | zero => exact .inr (.inr (.inl ⟨x, rfl, rfl⟩))
            | succ i => exact (g i).succ
        · cases h
      · cases e : rdCsM Γ I ks.tail cs.tail as with
        | none => rw [e] at h; cases h
        | some xs =>
          rw [e] at h
          cases h
          obtain ⟨l, g⟩ := rdCsM_get e
          refine ⟨by simp [l], fun i => ?_⟩
          cases i with
          | zero => exact .inr (.inl ⟨fr, x, rfl, rfl⟩)
          | succ i => exact (g i).succ
  | .s j :: as, ks, cs, ars, h => by
    unfold rdCsM at h
    split at h
    · rename_i hc
      cases e1 : cellAt Γ j with
      | none => rw [e1] at h; cases h
      | some ic =>
        rw [e1] at h
        have h : (rdCsM Γ I ks.tail cs.tail as).map (.c ic.2 :: ·) = some ars := h
        cases e : rdCsM Γ I ks.tail cs.tail as with
        | none => rw [e] at h; cases h
        | some xs =>
          rw [e] at h
          cases h
          obtain ⟨l, g⟩ := rdCsM_get e
          refine ⟨by simp [l], fun i => ?_⟩
          cases i with
          | zero => exact .inr (.inr (.inr (.inl ⟨j, ic, rfl, by rw [getD_head]; exact hc, e1, rfl⟩)))
          | succ i => exact (g i).succ
    · rename_i hc
      split at h
      · cases h
      · rename_i hj
        cases e1 : rdW Γ j with
        | none => rw [e1] at h; cases h
        | some x =>
          rw [e1] at h
          have h : (rdCsM Γ I ks.tail cs.tail as).map (.d x :: ·) = some ars := h
          cases e : rdCsM Γ I ks.tail cs.tail as with
          | none => rw [e] at h; cases h
          | some xs =>
            rw [e] at h
            cases h
            obtain ⟨l, g⟩ := rdCsM_get e
            refine ⟨by simp [l], fun i => ?_⟩
            cases i with
            | zero => exact .inr (.inr (.inr (.inr ⟨j, x, rfl, by rw [getD_head]; simpa using hc, hj, e1, rfl⟩)))
            | succ i => exact (g i).succ
section
variable {X : Cx} {W : WX} {sc : Scope} {N : List Str} {x : Str} {e : Expr} {es : List Expr} {p pos : Pos} {k : DA} {dvs : List V} {dds : List PyData} {m : List Ar → R (Rs × List Sl)}
theorem callCsM_core {Γ : List Sl} {G : Gh} {H : Hp} {σ : St} {as : List AV} {ars : List Ar} {ks cs : List Bool} {b : Bool} {vs : List V} {Q : VK} (hdv : ∀ G H, DnA X.K G H dvs dds) (S : Sta X.K G H σ Γ) (av : AVs X.K G H σ vs as)
    (hn : ((prsC cs as).map (·.2)).Nodup) (hb : ∀ z ∈ prsC cs as, ∃ c, cellAt Γ z.2 = some (b, c)) (hd : rdCsM Γ ((prsC cs as).map (·.2)) ks cs as = some ars)
    (hp : Pst X W G H σ ((m (ars ++ dds.map Ar.d)).atCs b (prsC cs as) Γ) fun z G' H' => Sta X.K G' H' σ z.2 → RsOk X.K G'.N H' Q z.1) : spU X.K X.mg m (vs ++ dvs) H Q (fun cls d H => W cls d σ H) := by
  obtain ⟨A, T⟩ := id S
  obtain ⟨hlen, hget⟩ := rdCsM_get hd
  have vl := av.len
  let F : Nat → List Addr := fun i => match slotC cs as i with
    | some j => A j
    | none => []
  let L : List Addr := ((prsC cs as).map (·.2)).flatMap A
  have Fs : ∀ {i j}, slotC cs as i = some j → F i = A j := fun {i j} h => by show (match slotC cs as i with | some j => A j | none => []) = _; rw [h]
  have Fn : ∀ {i}, slotC cs as i = none → F i = [] := fun {i} h => by show (match slotC cs as i with | some j => A j | none => []) = _; rw [h]
  have Lm : ∀ {p}, p ∈ L ↔ ∃ z ∈ prsC cs as, p ∈ A z.2 := fun {p} => by
    show p ∈ ((prsC cs as).map (·.2)).flatMap A ↔ _
    rw [List.mem_flatMap]
    constructor
    · rintro ⟨j, hj, hp⟩
      obtain ⟨z, hz, rfl⟩ := List.mem_map.mp hj
      exact ⟨z, hz, hp⟩
    · rintro ⟨z, hz, hp⟩
      exact ⟨z.2, List.mem_map.mpr ⟨z, hz, rfl⟩, hp⟩
  have nL : ∀ fr a o, rg G fr a o → a ∉ L := fun fr a o h hL => by
    obtain ⟨z, _, hp⟩ := Lm.mp hL
    obtain ⟨_, q1, q2⟩ := T.al z.2 a hp
    cases fr with
    | true =>
      have h : G.N a = some o := h
      rw [q1] at h; cases h
    | false =>
      rcases h with h | ⟨h, h'⟩
      · rw [q1] at h; cases h
      · rcases q2 with q2 | q2
        · exact h' q2
        · rw [q2] at h; cases h
  have sl : ∀ {i j ic}, as[i]? = some (.s j) → cs.getD i false = true → cellAt Γ j = some ic → slotC cs as i = some j := fun {i j ic} h1 h2 _ => by
    unfold slotC
    rw [h1]
    show (if cs.getD i false = true then some j else none) = some j
    rw [if_pos h2]
  have AU : ArgsU X.K H (vs ++ dvs) (ars ++ dds.map Ar.d) F L G.N := by
    have tl : ∀ (i : Nat), ars.length ≤ i → slotC cs as i = none := fun i h => by
      unfold slotC
      rw [List.getElem?_eq_none (by omega)]
    have dl : dvs.length = dds.length := (hdv (RgN G) H).length
    refine ⟨by simp; omega, fun i x hx => ?_, fun i c hc => ?_, fun i hi => ?_, fun i q hq => ?_, fun q hq => ?_, fun i j q hi hj => ?_, fun i x hx => ?_, fun a o h => ⟨(T.w.new a o h).1, nL true a o h⟩⟩
    · by_cases hlt : i < ars.length
      · rw [List.getElem?_append_left hlt] at hx
        rw [List.getElem?_append_left (by omega)]
        rcases av.get i with ⟨v1, v2⟩ | ⟨v, a, v1, v2, v3⟩
        · have := (List.getElem?_eq_none_iff.mp v2); omega
        refine ⟨v, v1, ?_⟩
        rcases hget i with ⟨a1, _⟩ | ⟨fr, y, a1, a2⟩ | ⟨y5, a1, a2⟩ | ⟨j, ic, a1, _, _, a2⟩ | ⟨j, y, a1, _, a3, a4, a2⟩
        · rw [a1] at v2; cases v2
        · rw [a1] at v2; cases v2
          rw [a2] at hx; cases hx
          have v3 : Dn X.K (rg G fr) H v x := v3
          exact v3.mono (fun a o z => ⟨T.w.rgl fr a o z, nL fr a o z⟩) (TupLe.rf _)
        · rw [a2] at hx; cases hx
        · rw [a2] at hx; cases hx
        · rw [a1] at v2; cases v2
          rw [a2] at hx; cases hx
          refine (T.rdW a4 v3).mono (fun a o z => ⟨z.1, fun hL => ?_⟩) (TupLe.rf _)
          obtain ⟨y, hy, hp⟩ := Lm.mp hL
          rcases z.2 with z | z | z
          · rw [(T.al y.2 a hp).2.1] at z; cases z
          · exact a3 (T.dj j y.2 a z hp ▸ List.mem_map.mpr ⟨y, hy, rfl⟩)
          · rw [T.ae y.2 a hp] at z; cases z
      · rw [List.getElem?_append_right (by omega), List.getElem?_map] at hx
        rw [List.getElem?_append_right (by omega)]
        cases hz : dds[i - ars.length]? with
        | none => rw [hz] at hx; cases hx
        | some y =>
          rw [hz] at hx
          cases hx
          obtain ⟨v, w1, w2⟩ := (hdv (fun a o => H a = some o ∧ a ∉ L) H).get' hz
          exact ⟨v, by rw [show i - vs.length = i - ars.length by omega]; exact w1, w2⟩
    · by_cases hlt : i < ars.length
      · rw [List.getElem?_append_left hlt] at hc
        rw [List.getElem?_append_left (by omega)]
        rcases av.get i with ⟨v1, v2⟩ | ⟨v, a, v1, v2, v3⟩
        · have := (List.getElem?_eq_none_iff.mp v2); omega
        refine ⟨v, v1, ?_⟩
        rcases hget i with ⟨a1, _⟩ | ⟨fr, y, a1, a2⟩ | ⟨y5, a1, a2⟩ | ⟨j, ic, a1, a3, a4, a2⟩ | ⟨j, y, a1, _, _, _, a2⟩
        · rw [a1] at v2; cases v2
        · rw [a2] at hc; cases hc
        · rw [a2] at hc; cases hc
        · rw [a1] at v2; cases v2
          rw [a2] at hc; cases hc
          rw [Fs (sl a1 a3 a4)]
          have hcell := cellAt_ok a4
          have old := T.sl j _ hcell
          have v3 : σ[j]? = some (some v) := v3
          obtain ⟨bb, cc⟩ := ic
          cases bb with
          | true =>
            obtain ⟨u, h1, h2, h3⟩ := old
            rw [v3] at h1; cases h1
            exact h3
          | false =>
            obtain ⟨u, h1, h2, h3⟩ := old
            rw [v3] at h1; cases h1
            exact h3
        · rw [a2] at hc; cases hc
      · rw [List.getElem?_append_right (by omega), List.getElem?_map] at hc
        cases hz : dds[i - ars.length]? with
        | none => rw [hz] at hc; cases hc
        | some y => rw [hz] at hc; cases hc
    · by_cases hlt : i < ars.length
      · refine Fn ?_
        cases hs : slotC cs as i with
        | none => rfl
        | some j =>
          unfold slotC at hs
          split at hs
          · rename_i j' hj'
            split at hs
            · rename_i hcs
              rcases hget i with ⟨a1, _⟩ | ⟨fr, y, a1, a2⟩ | ⟨y5, a1, a2⟩ | ⟨j2, ic, a1, a3, a4, a2⟩ | ⟨j2, y, a1, a3, _, _, a2⟩
              · rw [a1] at hj'; cases hj'
              · rw [a1] at hj'; cases hj'
              · rw [a1] at hj'; cases hj'
              · exact absurd (by rw [List.getElem?_append_left hlt]; exact a2) (hi ic.2)
              · rw [a3] at hcs; cases hcs
            · cases hs
          · cases hs
      · exact Fn (tl i (by omega))
    · cases hs : slotC cs as i with
      | none => rw [Fn hs] at hq; cases hq
      | some j =>
        rw [Fs hs] at hq
        exact Lm.mpr ⟨(i, j), prsC_mem.mpr hs, hq⟩
    · obtain ⟨z, _, hq⟩ := Lm.mp hq
      exact (T.al z.2 q hq).1
    · cases hs : slotC cs as i with
      | none => rw [Fn hs] at hi; cases hi
      | some a =>
        cases ht : slotC cs as j with
        | none => rw [Fn ht] at hj; cases hj
        | some c =>
          rw [Fs hs] at hi
          rw [Fs ht] at hj
          have hac := T.dj a c q hi hj
          subst hac
          have e1 := posC_of hn (prsC_mem.mpr hs : (i, a) ∈ prsC cs as)
          have e2 := posC_of hn (prsC_mem.mpr ht : (j, a) ∈ prsC cs as)
          exact e1.symm.trans e2
    · by_cases hlt : i < ars.length
      · rw [List.getElem?_append_left hlt] at hx
        rcases hget i with ⟨_, a2⟩ | ⟨fr, y, a1, a2⟩ | ⟨y5, a1, a2⟩ | ⟨j, ic, a1, _, _, a2⟩ | ⟨j, y, a1, _, _, _, a2⟩
        · rw [a2] at hx; cases hx
        · rw [a2] at hx; cases hx
        · rw [a2] at hx; cases hx
          rcases av.get i with ⟨v1, v2⟩ | ⟨v, a, v1, v2, v3⟩
          · rw [a1] at v2; cases v2
          rw [a1] at v2; cases v2
          exact ⟨v, by rw [List.getElem?_append_left (List.getElem?_eq_some_iff.mp v1).1]; exact v1, v3⟩
        · rw [a2] at hx; cases hx
        · rw [a2] at hx; cases hx
      · rw [List.getElem?_append_right (by omega), List.getElem?_map] at hx
        cases hz : dds[i - ars.length]? with
        | none => rw [hz] at hx; cases hx
        | some y => rw [hz] at hx; cases hx
  refine ⟨_, F, L, G.N, AU, ?_⟩
  have key : ∀ H' N' F' Z Γ', PostU X.K H (vs ++ dvs) F L G.N H' N' Z F' → setZs b Z (prsC cs as) Γ = some Γ' → ∃ G', Sta X.K G' H' σ Γ' ∧ Ext G H G' H' ∧ RgLe (RN N') (rg G' true) := fun H' N' F' Z Γ' P hz => by
    have hmk : ∀ z ∈ prsC cs as, ∃ c, Γ[z.2]? = some (mkS b c) := fun z hz => by
      obtain ⟨c, hc⟩ := hb z hz
      exact ⟨c, cellAt_ok hc⟩
    obtain ⟨h1, h2, h3⟩ := setZs_ok hz hn fun z hz => by
      obtain ⟨c, hc⟩ := hmk z hz
      exact (List.getElem?_eq_some_iff.mp hc).1
    have hI : ∀ {j}, j ∈ (prsC cs as).map (·.2) → ∃ z ∈ prsC cs as, z.2 = j ∧ posC (prsC cs as) j = z.1 := fun {j} hj => by
      obtain ⟨z, hz, rfl⟩ := List.mem_map.mp hj
      exact ⟨z, hz, rfl, posC_of hn hz⟩
    refine T.steps (I := (prsC cs as).map (·.2)) (b := b) (cs := fun j => (ioAt (posC (prsC cs as) j) Z).getD (.lst [])) (B := fun j => F' (posC (prsC cs as) j)) (fun j hj => ?_) (fun a o h hn => P.keep a o h fun hL => ?_) (fun j hj a ha => P.pal a ?_) P.t P.new (fun j hj v hv => ?_) (fun j hj q hq => ?_) (fun i hi j hj q h1 h2 => ?_) h1 (fun j hj => ?_) h3
    · obtain ⟨z, hz, rfl, _⟩ := hI hj
      exact hmk z hz
    · obtain ⟨z, hz, hp⟩ := Lm.mp hL
      exact hn z.2 (List.mem_map.mpr ⟨z, hz, rfl⟩) hp
    · obtain ⟨z, hz, rfl, _⟩ := hI hj
      exact Lm.mpr ⟨z, hz, ha⟩
    · obtain ⟨z, hz, rfl, hpos⟩ := hI hj
      obtain ⟨c, hc, _⟩ := h2 z hz
      obtain ⟨u, q1, q2⟩ := P.cel z.1 c (ioAt_ok hc)
      have hs := prsC_mem.mp hz
      have has : as[z.1]? = some (.s z.2) := by
        unfold slotC at hs
        split at hs
        · rename_i j' hj'
          split at hs
          · cases hs; exact hj'
          · cases hs
        · cases hs
      rcases av.get z.1 with ⟨_, w2⟩ | ⟨v', a, w1, w2, w3⟩
      · rw [has] at w2; cases w2
      rw [has] at w2
      cases w2
      have w3 : σ[z.2]? = some (some v') := w3
      rw [hv] at w3
      cases w3
      have hlt := (List.getElem?_eq_some_iff.mp w1).1
      rw [List.getElem?_append_left hlt, w1] at q1
      cases q1
      show ((ioAt (posC (prsC cs as) z.2) Z).getD (.lst [])).ok X.K (RN N') H' v (F' (posC (prsC cs as) z.2))
      rw [hpos, hc]
      exact q2
    · obtain ⟨z, hz, rfl, hpos⟩ := hI hj
      obtain ⟨q1, q2, q3⟩ := P.al _ q hq
      refine ⟨q1, q2, q3.imp (fun hL => ?_) id⟩
      obtain ⟨y, hy, hp⟩ := Lm.mp hL
      exact ⟨y.2, List.mem_map.mpr ⟨y, hy, rfl⟩, hp⟩
    · obtain ⟨z, hz, rfl, e1⟩ := hI hi
      obtain ⟨y, hy, rfl, e2⟩ := hI hj
      have := P.dj _ _ q h1 h2
      rw [e1, e2] at this
      have a1 := prsC_mem.mp hz
      have a2 := prsC_mem.mp hy
      rw [this, a2] at a1
      exact (Option.some.inj a1).symm
    · obtain ⟨z, hz, rfl, hpos⟩ := hI hj
      obtain ⟨c, hc, hg⟩ := h2 z hz
      show _ = some (mkS b ((ioAt (posC (prsC cs as) z.2) Z).getD (.lst [])))
      rw [hpos, hc]
      exact hg
  cases hm : m (ars ++ dds.map Ar.d) with
  | bad => rw [hm] at hp; exact hp
  | exc y =>
    rw [hm] at hp
    intro H' N' F' C d P k1 k2
    obtain ⟨Γ', hz, hp⟩ := Pst.ofO (show Pst X W G H σ ((R.ofO (setZs b y.st (prsC cs as) Γ)).bind fun Γ' => .exc ⟨y.cls, y.flds, Γ'⟩) _ from hp)
    obtain ⟨G', S', e', l⟩ := key H' N' F' y.st Γ' P hz
    refine hp G' H' σ C d e' S' k1 ?_
    rcases k2 with ⟨a, fs, q1, q2, q3, q4⟩ | q
    · exact .inl ⟨a, fs, q1, l _ _ q2, q3, q4.mono l (TupLe.rf _)⟩
    · exact .inr q
  | val z =>
    rw [hm] at hp
    intro H' N' F' P
    obtain ⟨Γ', hz, hp⟩ := Pst.ofO (show Pst X W G H σ ((R.ofO (setZs b z.2 (prsC cs as) Γ)).bind fun Γ' => .val (z.1, Γ')) _ from hp)
    obtain ⟨G', S', e', l⟩ := key H' N' F' z.2 Γ' P hz
    have q := hp G' H' e' S'
    simp only at q
    cases hz : z.1 with
    | d y => rw [hz] at q; exact fun v hv => q v (hv.mono l (TupLe.rf _))
    | c y => rw [hz] at q; exact fun v H2 ⟨fp, n1, n2, n3⟩ => q v H2 ⟨fp, n1, n2, Cl.mono n3 l (fun _ _ => rfl) (TupLe.rf _)⟩
end
end PD
set_option Elab.async false
set_option linter.all false
set_option maxRecDepth 100000
set_option maxHeartbeats 4000000
set_option autoImplicit false
namespace PD
open PySem PySem.Spec L2
section
variable {K : PySem.W.Frag} {G : Gh} {H H' : Hp} {σ τ : L2.St} {Γ Δ : List Sl} {c : Cl} {v : V}
theorem Sta.len (S : Sta K G H σ Γ) : Γ.length = σ.length := S.elim fun _ T => T.len
theorem Sta.more (S : Sta K G H σ Γ) : Sta K G H (σ ++ [none]) (Γ ++ [Sl.un]) := by
  obtain ⟨A, T⟩ := S
  have hl := T.len
  have old : ∀ {i : Nat} {s : Sl}, s ≠ .un → (Γ ++ [Sl.un])[i]? = some s → Γ[i]? = some s ∧ (σ ++ [none])[i]? = σ[i]? := fun {i s} hs h => by
    by_cases hi : i < Γ.length
    · rw [List.getElem?_append_left hi] at h
      exact ⟨h, List.getElem?_append_left (by omega)⟩
    · rw [List.getElem?_append_right (by omega)] at h
      exact absurd (List.mem_singleton.mp (List.mem_of_getElem? h)) hs
  refine ⟨fun i => if i < Γ.length then A i else [], T.w, by simp [hl], fun i s h => ?_, fun i p hp => ?_, fun i p hp => ?_, fun i j p hi hj => ?_, fun i j k ns h1 h2 => ?_⟩
  · by_cases hi : i < Γ.length
    · rw [List.getElem?_append_left hi] at h
      rw [List.getElem?_append_left (by omega)]
      show SlOk K G H i σ[i]? (if i < Γ.length then A i else []) s
      rw [if_pos hi]
      exact T.sl i s h
    · rw [List.getElem?_append_right (by omega)] at h
      obtain rfl := List.mem_singleton.mp (List.mem_of_getElem? h)
      show (if i < Γ.length then A i else []) = []
      rw [if_neg hi]
  · have hp : p ∈ (if i < Γ.length then A i else []) := hp
    split at hp
    · exact T.al i p hp
    · cases hp
  · have hp : p ∈ (if i < Γ.length then A i else []) := hp
    split at hp
    · exact T.ae i p hp
    · cases hp
  · have hi : p ∈ (if i < Γ.length then A i else []) := hi
    have hj : p ∈ (if j < Γ.length then A j else []) := hj
    split at hi
    · split at hj
      · exact T.dj i j p hi hj
      · cases hj
    · cases hi
  · obtain ⟨g1, g2⟩ := old (fun z => by cases z) h1
    obtain ⟨g3, g4⟩ := old (fun z => by cases z) h2
    obtain ⟨p, q1, q2⟩ := T.rf i j k ns g1 g3
    have hj : j < Γ.length := (List.getElem?_eq_some_iff.mp g3).1
    exact ⟨p, by show (if j < Γ.length then A j else [])[k]? = some p; rw [if_pos hj]; exact q1, by rw [g2]; exact q2⟩
theorem Sta.push (S : Sta K G H σ Γ) (h : NewC K (rg G true) H c v H') : Sta K G H' (σ ++ [some v]) (Γ ++ [Sl.own c]) ∧ Ext G H G H' := by
  have hl := S.len
  obtain ⟨S2, e⟩ := S.more.putC Γ.length h
  have e1 : (σ ++ [none]).set Γ.length (some v) = σ ++ [some v] := by rw [hl, List.set_append_right _ _ (Nat.le_refl _)]; simp
  have e2 : (Γ ++ [Sl.un]).set Γ.length (Sl.own c) = Γ ++ [Sl.own c] := by rw [List.set_append_right _ _ (Nat.le_refl _)]; simp
  rw [e1, e2] at S2
  exact ⟨S2, e⟩
end
section
variable {X : Cx} {W : WX} {sc : Scope} {N : List Str} {x : Str} {e : Expr} {es : List Expr} {p pos pos2 : Pos} {k : DA} {m : List Ar → R (Rs × List Sl)} {j : Nat}
end
inductive SlVs (σ : L2.St) : List Nat → List V → Prop
  | nil : SlVs σ [] []
  | cons {i : Nat} {is : List Nat} {v : V} {vs : List V} : σ[i]? = some (some v) → SlVs σ is vs → SlVs σ (i :: is) (v :: vs)
theorem AVs.up {K : PySem.W.Frag} {G : Gh} {H : Hp} {σ τ : L2.St} : ∀ {vs : List V} {as : List AV}, AVs K G H σ vs as → AVs K G H (σ ++ τ) vs as
  | _, _, .nil => .nil
  | _, _, .cons (a := .d fr x) h r => .cons h r.up
  | _, _, .cons (a := .s i) h r => .cons (a := .s i) (by
      have h : σ[i]? = some _ := h
      show (σ ++ τ)[i]? = some _
      rw [List.getElem?_append_left (List.getElem?_eq_some_iff.mp h).1]
      exact h) r.up
section
variable {X : Cx} {W : WX} {sc : Scope} {N : List Str} {x y : Str} {e : Expr} {es : List Expr} {p pos pos2 : Pos} {m : List Ar → R (Rs × List Sl)} {j : Nat} {is : List Nat}
end
end PD
set_option Elab.async false
set_option linter.all false
set_option maxRecDepth 100000
set_option maxHeartbeats 4000000
set_option autoImplicit false
namespace PD
open PySem PySem.Spec L2
section
variable {X : Cx} {W : WX} {sc : Scope} {N : List Str} {y : Str} {e : Expr} {p pos py kpos : Pos} {m : List Ar → R (Rs × List Sl)} {f : DX}
end
theorem Gv.uW {P : Program} {w : World} {K : PySem.W.Frag} {mg : Str → Option Value} {base : Heap} {k k' : Nat} {x : Str} {dvs : List V} {m : List Ar → R (Rs × List Sl)} {j : Nat} {scope : Scope} {X : Cx} {W : WX} {N : List Str} (g : Gv P w K mg base k x dvs (spW K mg m j)) (h : Here X W P w K mg base scope N k') (hk : k ≤ k') : Clee X x dvs (spW X.K X.mg m j) := by
  have := g.clee h hk
  rw [h.K, h.mg]
  exact this
end PD
set_option Elab.async false
set_option linter.all false
set_option maxRecDepth 100000
set_option maxHeartbeats 4000000
set_option autoImplicit false
namespace PD
open PySem PySem.Spec L2
open PySem.W (alike dataLt)
section
variable {X : Cx} {W : WX} {sc : Scope} {N : List Str} {a b : Expr} {pos : Pos} {f g : DF}
end
end PD
set_option Elab.async false
set_option linter.all false
set_option maxRecDepth 100000
set_option maxHeartbeats 4000000
set_option autoImplicit false
namespace PD
open PySem PySem.Spec L2
section
variable {X : Cx} {W : WX} {sc : Scope} {N : List Str} {a b e : Expr} {pos : Pos} {f g fe fi : DF} {x : Str}
end
end PD
set_option Elab.async false
set_option linter.all false
set_option maxRecDepth 100000
set_option maxHeartbeats 4000000
set_option autoImplicit false
namespace PD
open PySem PySem.Spec L2
section
variable {X : Cx} {W : WX} {sc : Scope} {N : List Str} {a b e : Expr} {es : List Expr} {pos tp p' : Pos} {f g fe fi : DF} {x y : Str}
end
end PD
set_option Elab.async false
set_option linter.all false
set_option maxRecDepth 100000
set_option maxHeartbeats 4000000
set_option autoImplicit false
namespace PD
open PySem PySem.Spec L2
section
variable {X : Cx} {W : WX} {e : Expr} {es : List Expr} {f : DF} {k : DA} {pos p1 p2 : Pos}
end
end PD
set_option Elab.async false
set_option linter.all false
set_option maxRecDepth 100000
set_option maxHeartbeats 4000000
set_option autoImplicit false
namespace PD
open PySem PySem.Spec L2
section
variable {X : Cx} {W : WX} {sc : Scope} {N : List Str} {a b : Expr} {f g : DF} {x : Str} {p2 apos cpos : Pos}
end
end PD
set_option Elab.async false
set_option linter.all false
set_option maxRecDepth 100000
set_option maxHeartbeats 4000000
set_option autoImplicit false
namespace PD
open PySem L2
section
variable {X : Cx} {W : WX} {sc : Scope} {N : List Str} {x : Str} {e : Expr} {es : List Expr} {p pos : Pos} {k : DA} {dvs : List V} {dds : List PyData} {m : List Ar → R (Rs × List Sl)}
end
end PD
set_option Elab.async false
set_option linter.all false
set_option maxRecDepth 100000
set_option maxHeartbeats 4000000
set_option autoImplicit false
namespace PD
open PySem PySem.Spec L2
section
variable {X : Cx} {W : WX} {sc : Scope} {N : List Str} {b : Expr} {g : DF} {x : Str} {pos p1 cp spos : Pos}
end
end PD
set_option Elab.async false
set_option linter.all false
set_option maxRecDepth 100000
set_option maxHeartbeats 4000000
set_option autoImplicit false
namespace PD
open PySem PySem.Spec PyProof.Rows L2 HotX
section
variable {P : Program} {w : World} {A : Around} {E : Value → Shared → Prop} {s : Shared}
end
def Phi (K : PySem.W.Frag) (a : Addr) (G : Gh) : Prop := ∃ nm d, G.N a = some (XvO K nm d a)
theorem Phi.ext {K : PySem.W.Frag} {a : Addr} {G G' : Gh} {H H' : Hp} (h : Phi K a G) (e : Ext G H G' H') : Phi K a G' := by
  obtain ⟨nm, d, h⟩ := h
  exact ⟨nm, d, e.n _ _ h⟩
theorem Phi.hot {X : Cx} {a : Addr} {G : Gh} {H : Hp} {pins : List (Addr × Obj)} {σ : L2.St} {s : Shared} (h : Phi X.K a G) (w : Wf G H) (I : Inv X pins σ H s) (hd : X.A.handled = some (.ref a)) : HotAt X.A a s.heap := by
  obtain ⟨nm, d, h⟩ := h
  obtain ⟨⟨oe, vs, e, z, q, n⟩, _⟩ := (show ObjOk X.prog X.w H s.heap a (XvO X.K nm d a) from I.hok a _ (w.new _ _ h).1)
  exact ⟨hd, oe, vs, e, q, n⟩
section
variable (a : Addr) (X : Cx) (W : WX)
end
section
variable {X : Cx} {W : WX} {sc : Scope} {N : List Str} {x : Addr} {a b c e : Expr} {es rest : List Expr} {pos p : Pos} {f g h : DF} {k : DA} {s : Stmt} {ss : List Stmt}
end
end PD
set_option Elab.async false
set_option linter.all false
set_option maxRecDepth 100000
set_option maxHeartbeats 4000000
set_option autoImplicit false
namespace PD
open PySem PySem.Spec L2
section
variable {X : Cx} {e : Expr} {t : L2.St → Hp → XK → Prop}
end
section
variable {X : Cx} {W : WX} {sc : Scope} {N : List Str} {xs ds hs fs fns : List Str} {c : Str} {e : Expr} {es : List Expr} {k : DA} {p pos : Pos}
end
end PD
set_option Elab.async false
set_option linter.all false
set_option maxRecDepth 100000
set_option maxHeartbeats 4000000
set_option autoImplicit false
namespace PD
open PySem PySem.Spec PyProof.Rows L2 HotX
open L2H (RoomH)
def spUT (K : PySem.W.Frag) (mg : Str → Option Value) (a : Addr) (m : List Ar → R (Rs × List Sl)) : Sp := fun vs H Q E => ∃ as F L B, (∃ nm d, B a = some (XvO K nm d a)) ∧ ArgsU K H vs as F L B ∧ match m as with
  | .bad => False
  | .exc x => ∀ H' N F' C d, PostU K H vs F L B H' N x.st F' → mg x.cls = some (.ref C) → XdOk K (RN N) H' d x.flds → E (.ref C) d H'
  | .val z => ∀ H' N F', PostU K H vs F L B H' N z.2 F' → RsOk K N H' Q z.1
theorem spUT.sp {K : PySem.W.Frag} {mg : Str → Option Value} {a : Addr} {m : List Ar → R (Rs × List Sl)} {vs : List V} {H : Hp} {Q : VK} {E : XK} (h : spUT K mg a m vs H Q E) : spU K mg m vs H Q E := by
  obtain ⟨as, F, L, B, _, h1, h2⟩ := h
  exact ⟨as, F, L, B, h1, h2⟩
section
variable {P : Program} {w : World} {K : PySem.W.Frag} {mg : Str → Option Value} {base : Heap} {x qual : Str} {params : Arguments} {body : List Stmt} {scope : Scope} {dvs : List V} {kws : List (Str × V)} {f : Addr} {fd : FuncData} {N ps : List Str} {k : Nat}
structure FnT (P : Program) (w : World) (K : PySem.W.Frag) (mg : Str → Option Value) (base : Heap) (k : Nat) (f : Addr) (fd : FuncData) (ps : List Str) (sp : Addr → Sp) : Prop where
  len : ∀ a vs H Q E, sp a vs H Q E → vs.length = ps.length
  run : ∀ (a : Addr) (A : Around) (outer : List Env) (s : Shared) (H : Hp) (args : Args) (us : List Value) (vs : List V) (Q : VK) (E : XK), A.handled = some (.ref a) → RoomH k A → Env0 P w K mg base A outer s H → BindsTo s fd args (ps.zip us) → Vals vs us → sp a vs H Q E →
    codeAny (model P w) A (.call (.ref f) args) (L2.CR (L2N.CX P w) outer P w H s Q E) s
end
def CleeT (X : Cx) (x : Str) (dvs : List V) (sp : Addr → Sp) : Prop :=
  ∃ (k : Nat) (f : Addr) (fd : FuncData) (ps : List Str) (ds : List Value), FnT X.prog X.w X.K X.mg X.base k f fd ps sp ∧ RoomH k X.A ∧ X.mg x = some (.ref f) ∧ PySem.W.keepIn X.K (.ref f) = true ∧ Binds X.K fd ps ds ∧ Vals dvs ds
def GvT (P : Program) (w : World) (K : PySem.W.Frag) (mg : Str → Option Value) (base : Heap) (k : Nat) (x : Str) (dvs : List V) (sp : Addr → Sp) : Prop :=
  ∃ (f : Addr) (fd : FuncData) (ps : List Str) (ds : List Value), FnT P w K mg base k f fd ps sp ∧ mg x = some (.ref f) ∧ PySem.W.keepIn K (.ref f) = true ∧ Binds K fd ps ds ∧ Vals dvs ds
section
variable {P : Program} {w : World} {K : PySem.W.Frag} {mg : Str → Option Value} {base : Heap} {k k' : Nat} {x : Str} {dvs : List V} {m : List Ar → R (Rs × List Sl)} {X : Cx} {W : WX} {scope : Scope} {N : List Str}
theorem GvT.u (g : GvT P w K mg base k x dvs (fun a => spUT K mg a m)) (h : Here X W P w K mg base scope N k') (hk : k ≤ k') : CleeT X x dvs (fun a => spUT X.K X.mg a m) := by
  obtain ⟨f, fd, ps, ds, h1, h2, h3, h4, h5⟩ := g
  have e1 := h.prog
  have e2 := h.w
  have e3 := h.K
  have e4 := h.mg
  have e5 := h.base
  subst e1 e2 e3 e4 e5
  exact ⟨k, f, fd, ps, ds, h1, (L2H.roomH_of h.room).mono hk, h2, h3, h4, h5⟩
theorem CleeT.suite {sp : Addr → Sp} (h : CleeT X x dvs sp) (a : Addr) (pn : List (Addr × Obj)) : CleeT (X.suite a pn) x dvs sp := by
  obtain ⟨k, f, fd, ps, ds, h1, h2, h3⟩ := h
  exact ⟨k, f, fd, ps, ds, h1, ⟨h2.dp, h2.un⟩, h3⟩
end
section
variable {X : Cx} {W : WX} {sc : Scope} {N : List Str} {a : Addr} {x : Str} {o e e2 : Expr} {es : List Expr} {p pos apos cpos : Pos} {k : DA} {f g : DF} {dvs : List V} {dds : List PyData} {m : List Ar → R (Rs × List Sl)} {t : TA}
end
structure TurnX (P : Program) (w : World) (K : PySem.W.Frag) (a : Addr) (tg : Expr) (J : It) (fp : List Addr) (it : Addr) (tn : Nat → Heap → Prop) : Prop where
  mem : it ∈ fp
  obj : ∀ i h, tn i h → ∀ b ∈ fp, ∃ o, h.get? b = some o ∧ ∀ v, o.data ≠ .cell v
  keep : ∀ i h h', tn i h → (∀ b ∈ fp, ∀ o, h.get? b = some o → h'.get? b = some o) → tn i h'
  item : ∀ (X : Cx), X.prog = P → X.w = w → X.K = K → X.A.handled = some (.ref a) → ∀ (i : Nat) (pins : List (Addr × Obj)) (s : Shared) (σ : L2.St) (H : Hp) (E : Value → Shared → Prop), Inv X pins σ H s → (∀ b ∈ fp, FpOk X pins H b) → tn i s.heap → J.go i H →
    wpAny (model P w) X.A (pyNext (.ref it)) (fun r s1 => ∃ u, r = some u ∧
      wpAny (model P w) X.A (letOwnedTupleGo tg (.ref it) u) (fun _ s2 => ∃ x H', Inv X pins σ H' s2 ∧ RelV x u ∧ J.yld i H x H' ∧ tn (i + 1) s2.heap ∧ ∀ b ∈ fp, H' b = none) E s1) E s
  done : ∀ (X : Cx), X.prog = P → X.w = w → X.K = K → X.A.handled = some (.ref a) → ∀ (i : Nat) (pins : List (Addr × Obj)) (s : Shared) (σ : L2.St) (H : Hp) (E : Value → Shared → Prop), Inv X pins σ H s → (∀ b ∈ fp, FpOk X pins H b) → tn i s.heap → J.stop i H →
    wpAny (model P w) X.A (pyNext (.ref it)) (fun r s1 => r = none ∧ Inv X pins σ H s1) E s
  self : ∀ (A : Around) (i : Nat) (s : Shared) (Q : Value → Shared → Prop) (E : Value → Shared → Prop), tn i s.heap → Q (.ref it) s → wpAny (model P w) A (pyIter (.ref it)) Q E s
def PIEX (X : Cx) (a : Addr) (pins : List (Addr × Obj)) (σ : L2.St) (tg : Expr) (R : It → Hp → Prop) (itv : Value) (s2 : Shared) : Prop :=
  ∃ (it : Addr) (fp : List Addr) (tn : Nat → Heap → Prop) (J : It) (H' : Hp), itv = .ref it ∧ Inv X pins σ H' s2 ∧ TurnX X.prog X.w X.K a tg J fp it tn ∧ tn 0 s2.heap ∧ (∀ b ∈ fp, FpOk X pins H' b) ∧ R J H'
structure PIX (X : Cx) (a : Addr) (tg iter : Expr) (wi : TI) : Prop where
  run : ∀ (pins : List (Addr × Obj)) (s : Shared) (σ : L2.St) (H : Hp) (R : It → Hp → Prop), Inv X pins σ H s → wi σ H R →
    wpAny (model X.prog X.w) X.A (eval iter X.env) (fun v s1 => wpAny (model X.prog X.w) X.A (pyIter v) (PIEX X a pins σ tg R) X.xe s1) X.xe s
section
variable {X : Cx} {xa : Addr} {tg : Expr}
theorem Phi.le {K : PySem.W.Frag} {a : Addr} {G G' : Gh} {H H' : Hp} (h : Phi K a G) (e : Le G H G' H') : Phi K a G' := let ⟨nm, d, h⟩ := h; ⟨nm, d, e.n _ _ h⟩
def rdIP (xa : Addr) (X : Cx) (W : WX) (Γ : List Sl) (m : R ((List PyData × Bool) × List Sl)) : TI := fun σ H Q => ∃ G, Phi X.K xa G ∧ Sta X.K G H σ Γ ∧ Pst X W G H σ m fun r G' H' => ∀ J, Sta X.K G' H' σ r.2 → ItD X.K G' H' J r.1.1 r.1.2 → Q J H'
def CIX (xa : Addr) (X : Cx) (W : WX) (tg iter : Expr) (f : DI) : Prop := ∀ Γ, PIX X xa tg iter (rdIP xa X W Γ (f Γ))
variable {W : WX} {sc : Scope} {N : List Str} {Γ : List Sl} {iter elt : Expr} {ifs : List Expr} {scope : Scope} {own : List (Str × Nat)} {pos : Pos} {it : DI} {g : DG} {t : DT} {e : DF} {ts : List Nat}
theorem Cf0.blk (C : Cf0 X W sc N) {s : Shared} {H : Hp} {scope : Scope} {cl : List (Str × Addr)} {c : Addr} {fp : List Addr} : Cf0 (X.blk s H scope (compEnvC scope cl c X.env) fp) WF (relS scope sc) N := by
  refine ⟨?_, C.hN, C.nd, takes0N, C.hu, PassesOwn.never, C.hu2⟩
  show relabel scope X.env = relS scope sc
  rw [← C.hsc]
  rfl
structure CompX (xa : Addr) (X : Cx) (W : WX) (sc : Scope) (N : List Str) (tg iter elt : Expr) (ifs : List Expr) (scope : Scope) (own : List (Str × Nat)) (ts : List Nat) (g : DG) (it : DI) (t : DT) (e : DF) : Prop where
  hin : CIX xa X W tg iter it
  ok : blkC N sc scope own = true
  hg : ∀ (s : Shared) (H : Hp) (c : Addr) (cl : List (Str × Addr)) (fp : List Addr), CG (X.blk s H scope (compEnvC scope cl c X.env) fp) tg ts g
  ht : ∀ (s : Shared) (H : Hp) (c : Addr) (cl : List (Str × Addr)) (fp : List Addr), CTs (X.blk s H scope (compEnvC scope cl c X.env) fp) WF ifs t
  he : ∀ (s : Shared) (H : Hp) (c : Addr) (cl : List (Str × Addr)) (fp : List Addr), CE (X.blk s H scope (compEnvC scope cl c X.env) fp) WF elt e
  hts : ∀ j ∈ ts, j ∈ own.map (·.2)
  hs : ∀ x, foldedSetIterable iter X.env x = pure x
end
theorem Here.tr {X : Cx} {W W' : WX} {P : Program} {w : World} {K : PySem.W.Frag} {mg : Str → Option Value} {base : Heap} {scope : Scope} {N : List Str} {k : Nat} {pn : List (Addr × Obj)} {xe : Value → Shared → Prop} (h : Here X W P w K mg base scope N k) (C : Cf (X.tr pn xe) W' scope N) : Here (X.tr pn xe) W' P w K mg base scope N k :=
  ⟨C, h.prog, h.w, h.K, h.mg, h.base, h.room, h.fn, h.stk, h.frm⟩
end PD
set_option Elab.async false
set_option linter.all false
set_option maxRecDepth 100000
set_option maxHeartbeats 4000000
set_option autoImplicit false
namespace PD
open PySem PySem.Spec L2
theorem dna_tres {K : PySem.W.Frag} {G : Rg} {H : Hp} : ∀ {ds : List PyData} {vs : List V} {fp : List Addr}, TresOk K G H vs fp (ds.map Tre.d) → fp = [] ∧ DnA K G H vs ds
  | [], _, _, .nil => ⟨rfl, .nil⟩
  | d :: ds, _, _, .cons h a n => by
    cases h with
    | d h =>
      obtain ⟨rfl, a'⟩ := dna_tres a
      exact ⟨rfl, .cons h a'⟩
theorem tres_rows {K : PySem.W.Frag} {G : Rg} {H : Hp} : ∀ {dss : List (List PyData)} {vs : List V} {fp : List Addr}, TresOk K G H vs fp (dss.map fun ds => .lst (ds.map Tre.d)) →
    ∃ vss, vs = fp.map V.ref ∧ fp.Nodup ∧ RowsG (RgH H) fp vss ∧ vss.map (·.length) = dss.map (·.length) ∧ DnA K G H vss.flatten dss.flatten
  | [], _, _, .nil => ⟨[], rfl, List.Pairwise.nil, trivial, rfl, .nil⟩
  | ds :: dss, _, _, .cons h a n => by
    cases h with
    | lst hp hr hn =>
      rename_i p ws fq
      obtain ⟨rfl, d1⟩ := dna_tres hr
      obtain ⟨vss, rfl, nd, rg, le, dn⟩ := tres_rows a
      refine ⟨ws :: vss, rfl, List.nodup_cons.mpr ⟨n p (by simp), nd⟩, ⟨hp, rg⟩, ?_, ?_⟩
      · rw [List.map_cons, List.map_cons, d1.length, le]
      · rw [List.flatten_cons, List.flatten_cons]
        exact d1.append dn
theorem RowsG.sub {G G' : Rg} : ∀ {qs : List Addr} {vss : List (List V)}, RowsG G qs vss → (∀ a ∈ qs, ∀ o, G a o → G' a o) → RowsG G' qs vss
  | [], [], _, _ => trivial
  | q :: _, _ :: _, h, g => ⟨g q (by simp) _ h.1, RowsG.sub h.2 fun a ha => g a (by simp [ha])⟩
  | [], _ :: _, h, _ => h.elim
  | _ :: _, [], h, _ => h.elim
theorem TreOk.row {K : PySem.W.Frag} {G G' : Rg} {H : Hp} {v : V} {fp : List Addr} {dss : List (List PyData)} (h : TreOk K G H v fp (lsT dss)) (g : RgLe G G') (k : ∀ a ∈ fp, ∀ o, H a = some o → G' a o) : Dn K G' H v (sepD dss) := by
  cases h with
  | lst hp hr hn =>
    obtain ⟨vss, rfl, nd, rg, le, dn⟩ := tres_rows hr
    exact .row (k _ (by simp) _ hp) nd hn (rg.sub fun a ha o ho => k a (by simp [ha]) o ho) le (dn.mono g (TupLe.rf _))
theorem NewC.lockR {K : PySem.W.Frag} {G : Gh} {H H' : Hp} {σ : St} {Γ : List Sl} {dss : List (List PyData)} {v : V} (S : Sta K G H σ Γ) (h : NewC K (rg G true) H (.tr (lsT dss)) v H') :
    ∃ G', Sta K G' H' σ Γ ∧ Ext G H G' H' ∧ Dn K (rg G' true) H' v (sepD dss) := by
  obtain ⟨fp, h1, h2, h3⟩ := h
  have hin : ∀ a ∈ fp, H a = none := fun a ha => (h2 a ha).1
  let N' : Hp := fun a => if a ∈ fp then H' a else G.N a
  have nN : ∀ a o, G.N a = some o → a ∉ fp := fun a o e z => by
    have := (S.w.new a o e).1
    rw [hin a z] at this; cases this
  have g : Grow G H N' H' [] := by
    have k : ∀ a o, H a = some o → H' a = some o := fun a o e => by
      rw [h1 a fun z => by rw [hin a z] at e; cases e]; exact e
    refine ⟨fun a o e _ => k a o e, fun _ z => absurd z (by simp), fun a xs e => k _ _ e, fun a o e => ?_, fun a o e => ?_⟩
    · show (if a ∈ fp then H' a else G.N a) = some o
      rw [if_neg (nN a o e)]; exact e
    · have e : (if a ∈ fp then H' a else G.N a) = some o := e
      by_cases z : a ∈ fp
      · rw [if_pos z] at e; exact ⟨e, .inr (hin a z)⟩
      · rw [if_neg z] at e; exact ⟨k _ _ (S.w.new a o e).1, .inl e⟩
  obtain ⟨S2, e2⟩ := S.grow g
  refine ⟨_, S2, e2, TreOk.row h3.1 e2.n fun a ha o ho => ?_⟩
  show (if a ∈ fp then H' a else G.N a) = some o
  rw [if_pos ha]; exact ho
def unDs : List Tre → Option (List PyData)
  | [] => some []
  | .d x :: ts => (unDs ts).map fun r => x :: r
  | _ :: _ => none
def unRs : List Tre → Option (List (List PyData))
  | [] => some []
  | .lst us :: ts => (unDs us).bind fun ds => (unRs ts).map fun r => ds :: r
  | _ :: _ => none
def unLs : Cl → Option (List (List PyData))
  | .tr (.lst ts) => unRs ts
  | _ => none
theorem unDs_ok : ∀ {ts : List Tre} {ds : List PyData}, unDs ts = some ds → ts = ds.map Tre.d
  | [], _, h => by cases h; rfl
  | t :: ts, ds, h => by
    cases t with
    | d x =>
      obtain ⟨r, h1, rfl⟩ := Option.map_eq_some_iff.mp (show (unDs ts).map (fun r => x :: r) = some ds from h)
      rw [unDs_ok h1]; rfl
    | lst _ => cases h
    | tup _ => cases h
    | dic _ _ _ => cases h
    | ins _ _ _ => cases h
theorem unRs_ok : ∀ {ts : List Tre} {dss : List (List PyData)}, unRs ts = some dss → ts = dss.map fun ds => .lst (ds.map Tre.d)
  | [], _, h => by cases h; rfl
  | t :: ts, dss, h => by
    cases t with
    | lst us =>
      obtain ⟨ds, h1, h⟩ := Option.bind_eq_some_iff.mp (show ((unDs us).bind fun ds => (unRs ts).map fun r => ds :: r) = some dss from h)
      obtain ⟨r, h2, rfl⟩ := Option.map_eq_some_iff.mp h
      rw [unDs_ok h1, unRs_ok h2]; rfl
    | d _ => cases h
    | tup _ => cases h
    | dic _ _ _ => cases h
    | ins _ _ _ => cases h
theorem unLs_ok {c : Cl} {dss : List (List PyData)} (h : unLs c = some dss) : c = .tr (lsT dss) := by
  cases c with
  | tr T =>
    cases T with
    | lst ts =>
      have h : unRs ts = some dss := h
      rw [unRs_ok h]; rfl
    | d _ => cases h
    | tup _ => cases h
    | dic _ _ _ => cases h
    | ins _ _ _ => cases h
  | lst _ => cases h
  | dic _ _ => cases h
  | feed _ => cases h
  | mul _ _ => cases h
def dRow (k : DC) : DF := fun Γ => (k Γ).bind fun z => match unLs z.1 with
  | some dss => .val (.d true (sepD dss), z.2)
  | none => .bad
section
variable {X : Cx} {W : WX} {sc : Scope} {N : List Str} {tg iter elt e : Expr} {scope : Scope} {own : List (Str × Nat)} {pos : Pos} {it : DI} {g : DG} {ts : List Nat} {k : DC}
theorem ce_row (h : CC X W e k) : CE X W e (dRow k) := fun Γ => by
  refine pe_imp (h Γ) fun σ H Q ⟨G, S, p⟩ => ⟨G, S, (Pst.bind p).impG fun z G1 H1 e1 p1 v H2 S1 nc => ?_⟩
  cases hz : unLs z.1 with
  | none =>
    have := p1 G1 H1 (Ext.rf S1.w)
    rw [hz] at this
    exact this.elim
  | some dss =>
    rw [unLs_ok hz] at nc
    obtain ⟨G2, S2, e2, d2⟩ := nc.lockR S1
    have := p1 G2 H2 e2
    rw [hz] at this
    exact this G2 H2 (Ext.rf S2.w) v S2 d2
theorem cc_lcT (C : Cf X W sc N) {e : DN} (h : CompT X W sc N tg iter elt scope own ts g it e) : CC X W (.ListComp elt [⟨tg, iter, [], 0⟩] scope pos) (cCompT (own.map (·.2)) g it e) := fun Γ => by
  have hB : BlkOk X.N X.env.scope scope own := by rw [C.hN, C.hsc]; exact blkOk_by h.ok
  refine pe_imp (pe_lc (g := fun v σ H Q => ∃ G Γ fr d Γ', Sta X.K G H σ Γ ∧ Dn X.K (rg G fr) H v d ∧ g fr d Γ = some Γ' ∧ ∀ σ' : St, List.length σ' = List.length σ → (∀ j, j ∉ ts → σ'[j]? = σ[j]?) → Sta X.K G H σ' Γ' → Q σ' H)
    (tt := fun σ H Q => ∃ Γ1, rdT X WF Γ1 (PD.tYes Γ1) Prod.fst Prod.snd σ H Q) (te := fun σ H Q => ∃ Γ1, rdF X WF Γ1 (e Γ1) Prod.fst Prod.snd σ H Q)
    C.calm (by rw [C.hN]; exact C.nd) (h.hin Γ) hB (fun s H c cl fp => h.hg s H c cl fp) (fun s H c cl fp => ?_) (fun s H c cl fp => ?_) h.hs) fun σ H Q q => comp_rdT h.hts q
  · exact ⟨fun pins s' σ H' Q I ⟨z, q⟩ => (cts_nil (W := WF) z).run pins s' σ H' Q I q⟩
  · exact ⟨fun pins s' σ H' Q I ⟨z, q⟩ => (h.he s H c cl fp z).run pins s' σ H' Q I q⟩
end
def sepU : List (PyData × PyData) → Option (List (List PyData))
  | [] => some []
  | (.none, .list ds) :: r => (sepU r).map fun dss => ds :: dss
  | _ :: _ => none
theorem sepU_ok : ∀ {l : List (PyData × PyData)} {dss : List (List PyData)}, sepU l = some dss → l = dss.map fun ds => (PyData.none, .list ds)
  | [], _, h => by cases h; rfl
  | z :: r, dss, h => by
    obtain ⟨a, b⟩ := z
    cases a with
    | none =>
      cases b with
      | list ds =>
        obtain ⟨q, h1, rfl⟩ := Option.map_eq_some_iff.mp (show (sepU r).map (fun dss => ds :: dss) = some dss from h)
        rw [sepU_ok h1]; rfl
      | _ => cases h
    | _ => cases h
theorem sepU_of : ∀ (dss : List (List PyData)), sepU (dss.map fun ds => (PyData.none, .list ds)) = some dss
  | [] => rfl
  | ds :: dss => by
    show (sepU (dss.map fun ds => (PyData.none, .list ds))).map (fun q => ds :: q) = _
    rw [sepU_of dss]; rfl
def isD : Ar → Bool
  | .d _ => true
  | _ => false
def isUn : Sl → Bool
  | .un => true
  | _ => false
def unlR (m : List Ar → R (Rs × List Sl)) : List Ar → R (Rs × List Sl) := fun as => (R.req (as.all isD)).bind fun _ => match m as with
  | .val (.c (.lst [x, .dict ((.bool true, .int 0) :: l)]), Z) => match sepU l with
    | some dss => (R.req (Z.all isUn && (flat x && dss.all flat.flatA))).bind fun _ => .val (.c (.tr (.lst [.d x, lsT dss])), Z)
    | none => .bad
  | r => r
theorem dn_rw {K : PySem.W.Frag} {G : Rg} {H : Hp} {v : V} {dss : List (List PyData)} (h : Dn K G H v (sepD dss)) : ∃ a qs vss, v = .ref a ∧ G a (.lst (qs.map V.ref)) ∧ qs.Nodup ∧ a ∉ qs ∧ RowsG G qs vss ∧ vss.map (·.length) = dss.map (·.length) ∧ DnA K G H vss.flatten dss.flatten := by
  generalize hq : sepD dss = q at h
  cases h with
  | non => cases hq
  | bl b => cases hq
  | int i => cases hq
  | str x => cases hq
  | lst _ _ => cases hq
  | tup _ _ => cases hq
  | dct h1 h2 h3 =>
    rename_i o t vs kvs
    have hq : ((PyData.bool true, PyData.int 0) :: dss.map fun ds => (PyData.none, PyData.list ds)) = kvs := PyData.dict.inj hq
    rw [← hq] at h2
    cases t with
    | k =>
      obtain ⟨ks, _, h4, _⟩ := h2
      cases ks with
      | nil => cases h4
      | cons z r =>
        have h4 : PyData.bool true = keyD z.1 := (List.cons.inj h4).1
        cases hz : z.1 <;> rw [hz] at h4 <;> cases h4
    | t =>
      obtain ⟨ks, _, h4, _⟩ := h2
      cases ks with
      | nil => cases h4
      | cons z r =>
        have h4 := (List.cons.inj h4).1
        cases h4
    | n =>
      obtain ⟨rs, kds, _, _, _, hk, _⟩ := h2
      have hk : PyData.bool true = PyData.none := (List.cons.inj hk).1
      cases hk
  | exc _ _ _ _ => cases hq
  | exc0 _ => cases hq
  | ins _ _ _ _ => cases hq
  | dcu _ _ _ => cases hq
  | row h1 h2 h3 h4 h5 h6 =>
    rename_i a qs vss dss'
    have : dss' = dss := by
      have hq : ((PyData.bool true, PyData.int 0) :: dss.map fun ds => (PyData.none, PyData.list ds)) = ((PyData.bool true, PyData.int 0) :: dss'.map fun ds => (PyData.none, PyData.list ds)) := by
        unfold sepD at hq
        exact PyData.dict.inj hq
      have e := congrArg sepU (List.cons.inj hq).2
      rw [sepU_of, sepU_of] at e
      exact (Option.some.inj e).symm
    subst this
    exact ⟨a, qs, vss, rfl, h1, h2, h3, h4, h5, h6⟩
theorem rows_tres {K : PySem.W.Frag} {G G0 : Rg} {H : Hp} : ∀ {qs : List Addr} {vss : List (List V)} {dss : List (List PyData)}, RowsG (RgH H) qs vss → qs.Nodup → vss.map (·.length) = dss.map (·.length) → DnA K G0 H vss.flatten dss.flatten → dss.all flat.flatA = true →
    TresOk K G H (qs.map V.ref) qs (dss.map fun ds => .lst (ds.map Tre.d))
  | [], [], [], _, _, _, _, _ => .nil
  | q :: qs, vs :: vss, ds :: dss, h, n, hl, hd, hf => by
    have l1 : vs.length = ds.length := (List.cons.inj hl).1
    rw [List.flatten_cons, List.flatten_cons] at hd
    have d1 := hd.take vs.length
    rw [List.take_left, l1, List.take_left] at d1
    have d2 := hd.drop vs.length
    rw [List.drop_left, l1, List.drop_left] at d2
    rw [List.all_cons, Bool.and_eq_true] at hf
    have n := List.nodup_cons.mp n
    exact .cons (f1 := [q]) (f2 := qs) (.lst h.1 (tres_dna' (d1.free hf.1)) (by simp)) (rows_tres h.2 n.2 (List.cons.inj hl).2 d2 hf.2) fun p hp => by rw [List.mem_singleton.mp hp]; exact n.1
  | [], _ :: _, _, h, _, _, _, _ => h.elim
  | _ :: _, [], _, h, _, _, _, _ => h.elim
  | [], [], _ :: _, _, _, hl, _, _ => by cases hl
  | _ :: _, _ :: _, [], _, _, hl, _, _ => by cases hl
theorem RowsG.mem {G : Rg} : ∀ {qs : List Addr} {vss : List (List V)}, RowsG G qs vss → ∀ q ∈ qs, ∃ vs, G q (.lst vs)
  | q :: qs, vs :: vss, h, p, hp => by
    rcases List.mem_cons.mp hp with rfl | hp
    · exact ⟨_, h.1⟩
    · exact RowsG.mem h.2 p hp
  | [], [], _, p, hp => by cases hp
  | [], _ :: _, h, _, _ => h.elim
  | _ :: _, [], h, _, _ => h.elim
def cutH (fp : List Addr) (H : Hp) : Hp := fun a => if a ∈ fp then none else H a
theorem unl_sp {K : PySem.W.Frag} {mg : Str → Option Value} {m : List Ar → R (Rs × List Sl)} : ∀ vs H Q E, spU K mg (unlR m) vs H Q E → spU K mg m vs H Q E := fun vs H Q E ⟨as, F, L, B, A, h⟩ => by
  unfold unlR at h
  have hD : as.all isD = true := by
    cases q : as.all isD with
    | true => rfl
    | false => rw [q] at h; exact h.elim
  rw [hD] at h
  have noC : ∀ (i : Nat) (c : Cl), as[i]? ≠ some (Ar.c c) := fun i c e => by
    have := List.all_eq_true.mp hD _ (List.mem_of_getElem? e)
    cases this
  have noN : ∀ (i : Nat) (x : PyData), as[i]? ≠ some (Ar.n x) := fun i x e => by
    have := List.all_eq_true.mp hD _ (List.mem_of_getElem? e)
    cases this
  have A' : ArgsU K H vs as F L (fun _ => none) := ⟨A.len, A.dat, fun i c e => absurd e (noC i c), A.emp, A.all, A.al, A.dj, fun i x e => absurd e (noN i x), fun a o e => by cases e⟩
  have up : ∀ {H' N : Hp} {Z : List Sl} {F' : Nat → List Addr}, PostU K H vs F L (fun _ => none) H' N Z F' → PostU K H vs F L B H' N Z F' := fun {H' N Z F'} p => ⟨p.keep, p.pal, p.t, fun a o e => ⟨(p.new a o e).1, (p.new a o e).2.imp id fun z => by cases z⟩, p.cel, p.al, p.dj⟩
  rw [show ∀ f : Unit → R (Rs × List Sl), ((R.req true).bind f) = f () from fun _ => rfl] at h
  refine ⟨as, F, L, fun _ => none, A', ?_⟩
  cases hm : m as with
  | bad => rw [hm] at h; exact h
  | exc x =>
    rw [hm] at h
    exact fun H' N F' C d P => h H' N F' C d (up P)
  | val z =>
    obtain ⟨r0, Z⟩ := z
    rw [hm] at h
    by_cases hr0 : ∃ x l, r0 = .c (.lst [x, .dict ((.bool true, .int 0) :: l)])
    · obtain ⟨x, l, rfl⟩ := hr0
      have h2 : (match (match sepU l with
        | some dss => (R.req (Z.all isUn && (flat x && dss.all flat.flatA))).bind fun _ => R.val (Rs.c (.tr (.lst [.d x, lsT dss])), Z)
        | none => .bad : R (Rs × List Sl)) with
        | .bad => False
        | .exc x => ∀ H' N F' C d, PostU K H vs F L B H' N x.st F' → mg x.cls = some (.ref C) → XdOk K (RN N) H' d x.flds → E (.ref C) d H'
        | .val z => ∀ H' N F', PostU K H vs F L B H' N z.2 F' → RsOk K N H' Q z.1) := h
      clear h
      cases hu : sepU l with
      | none => rw [hu] at h2; exact h2.elim
      | some dss =>
      rw [hu] at h2
      dsimp only at h2
      have hl := sepU_ok hu
      subst hl
      cases hr : (Z.all isUn && (flat x && dss.all flat.flatA)) with
      | false => rw [hr] at h2; exact h2.elim
      | true =>
        rw [hr] at h2
        have h : ∀ H' N F', PostU K H vs F L B H' N Z F' → RsOk K N H' Q (.c (.tr (.lst [.d x, lsT dss]))) := h2
        rw [Bool.and_eq_true, Bool.and_eq_true] at hr
        obtain ⟨hZ, hx, hf⟩ := hr
        intro H' N F' P v H2 nc
        obtain ⟨fp, k1, k2, p, us, rfl, rfl, hp, hd⟩ := nc
        cases hd with
        | cons h0 hd =>
        rename_i v0 vr
        cases hd with
        | cons h1 hd =>
        rename_i v1 vr
        cases hd
        obtain ⟨a, qs, vss, rfl, g1, g2, g3, g4, g5, g6⟩ := dn_rw h1
        have g1 : N a = some (.lst (qs.map V.ref)) := g1
        have nw : ∀ b o, N b = some o → H' b = some o ∧ H b = none := fun b o e => ⟨(P.new b o e).1, (P.new b o e).2.elim id fun z => by cases z⟩
        have nN : ∀ b ∈ a :: qs, ∃ o, N b = some o := fun b hb => by
          rcases List.mem_cons.mp hb with rfl | hb
          · exact ⟨_, g1⟩
          · obtain ⟨vs', e⟩ := g4.mem b hb
            exact ⟨_, e⟩
        have hpn : p ∉ a :: qs := fun hb => by
          obtain ⟨o, e⟩ := nN p hb
          have := (nw p o e).1
          rw [(k2 p (by simp)).1] at this; cases this
        have keepT : TupLe H (cutH (a :: qs) H') := fun b xs e => by
          show (if b ∈ a :: qs then none else H' b) = _
          by_cases hb : b ∈ a :: qs
          · obtain ⟨o, eo⟩ := nN b hb
            rw [(nw b o eo).2] at e; cases e
          · rw [if_neg hb]; exact P.t b xs e
        refine h (cutH (a :: qs) H') (cutH (a :: qs) N) (fun _ => []) ⟨fun b o e hL => ?_, fun b hL => ?_, keepT, fun b o e => ?_, fun i c e => ?_, fun i b hb => absurd hb (by simp), fun i j b hb => absurd hb (by simp)⟩ (.ref p) H2 ⟨p :: (a :: qs), fun b hb => ?_, fun b hb => ?_, ?_⟩
        · show (if b ∈ a :: qs then none else H' b) = _
          by_cases hb : b ∈ a :: qs
          · obtain ⟨o', eo⟩ := nN b hb
            rw [(nw b o' eo).2] at e; cases e
          · rw [if_neg hb]; exact P.keep b o e hL
        · show (if b ∈ a :: qs then none else H' b) ≠ none
          by_cases hb : b ∈ a :: qs
          · obtain ⟨o', eo⟩ := nN b hb
            exact absurd (nw b o' eo).2 (A.al b hL)
          · rw [if_neg hb]; exact P.pal b hL
        · have e : (if b ∈ a :: qs then none else N b) = some o := e
          by_cases hb : b ∈ a :: qs
          · rw [if_pos hb] at e; cases e
          · rw [if_neg hb] at e
            refine ⟨?_, .inl (nw b o e).2⟩
            show (if b ∈ a :: qs then none else H' b) = some o
            rw [if_neg hb]; exact (nw b o e).1
        · have := List.all_eq_true.mp hZ _ (List.mem_of_getElem? e)
          cases this
        · have h1 : b ≠ p := fun z => hb (by simp [z])
          have h2 : b ∉ a :: qs := fun z => hb (List.mem_cons_of_mem _ z)
          show H2 b = (if b ∈ a :: qs then none else H' b)
          rw [if_neg h2]
          exact k1 b (by simpa using h1)
        · rcases List.mem_cons.mp hb with rfl | hb
          · refine ⟨?_, by rw [hp]; simp⟩
            show (if b ∈ a :: qs then none else H' b) = none
            rw [if_neg hpn]; exact (k2 b (by simp)).1
          · refine ⟨by show (if b ∈ a :: qs then none else H' b) = none; rw [if_pos hb], ?_⟩
            obtain ⟨o, eo⟩ := nN b hb
            rw [k1 b (fun z => by rw [List.mem_singleton.mp z] at hb; exact hpn hb), (nw b o eo).1]
            simp
        · have at2 : ∀ b ∈ a :: qs, ∀ o, N b = some o → H2 b = some o := fun b hb o eo => by
            rw [k1 b (fun z => by rw [List.mem_singleton.mp z] at hb; exact hpn hb)]; exact (nw b o eo).1
          have T : TreOk K (RN (cutH (a :: qs) N)) H2 (.ref a) (a :: qs) (lsT dss) := .lst (at2 a (by simp) _ g1) (rows_tres (g4.sub fun b hb o e => at2 b (by simp [hb]) o e) g2 g5 g6 hf) g3
          have T0 : TreOk K (RN (cutH (a :: qs) N)) H2 v0 [] (.d x) := .d (h0.free hx)
          exact ⟨.lst hp (.cons (f1 := []) (f2 := a :: qs) T0 (by
            have := TresOk.cons (f1 := a :: qs) (f2 := []) T .nil (by simp)
            rwa [List.append_nil] at this) (by simp)) hpn, p, rfl, .inl (by simp)⟩
    · have e : (match (R.val (r0, Z) : R (Rs × List Sl)) with
        | .val (.c (.lst [x, .dict ((.bool true, .int 0) :: l)]), Z) => (match sepU l with
          | some dss => (R.req (Z.all isUn && (flat x && dss.all flat.flatA))).bind fun _ => R.val (Rs.c (.tr (.lst [.d x, lsT dss])), Z)
          | none => .bad)
        | r => r : R (Rs × List Sl)) = .val (r0, Z) := by
        split
        · rename_i x l Z' he
          cases he
          exact absurd ⟨x, l, rfl⟩ hr0
        · rfl
      rw [e] at h
      exact fun H' N F' P => h H' N F' (up P)
end PD
set_option Elab.async false
set_option linter.all false
set_option maxRecDepth 100000
set_option maxHeartbeats 4000000
set_option autoImplicit false
namespace PD
open PySem PySem.Spec L2
def lkN (G : Gh) (H : Hp) (fp : List Addr) : Gh := ⟨G.H0, G.P, G.I, fun a => if a ∈ fp then H a else G.N a, G.E⟩
theorem StaA.lockT {K : PySem.W.Frag} {G : Gh} {H : Hp} {σ : St} {Γ : List Sl} {A : Nat → List Addr} {i : Nat} {T : Tre} {d : PyData} (S : StaA K G H σ Γ A) (hi : Γ[i]? = some (.own (.tr T))) (hd : trD T = some d) :
    Sta K (lkN G H (A i)) H σ (Γ.set i (.dat true d)) ∧ Ext G H (lkN G H (A i)) H := by
  obtain ⟨v, h1, h0, h2, _⟩ := S.sl i _ hi
  have nA : ∀ a o, G.N a = some o → a ∉ A i := fun a o e z => by rw [(S.al i a z).2.1] at e; cases e
  have le : ∀ a o, G.N a = some o → (lkN G H (A i)).N a = some o := fun a o e => by
    show (if a ∈ A i then H a else G.N a) = some o
    rw [if_neg (nA a o e)]; exact e
  have inN : ∀ a ∈ A i, (lkN G H (A i)).N a = H a := fun a ha => by
    show (if a ∈ A i then H a else G.N a) = _
    rw [if_pos ha]
  have outN : ∀ a, a ∉ A i → (lkN G H (A i)).N a = G.N a := fun a ha => by
    show (if a ∈ A i then H a else G.N a) = _
    rw [if_neg ha]
  have w : Wf (lkN G H (A i)) H := by
    refine ⟨S.w.keep, fun a o e => ⟨?_, trivial⟩, S.w.pal, S.w.p0, fun a o e => ?_, S.w.iv⟩
    · by_cases ha : a ∈ A i
      · rw [inN a ha] at e; exact e
      · rw [outN a ha] at e; exact (S.w.new a o e).1
    · have ha : a ∉ A i := fun z => by
        have e : G.E a = some o := e
        rw [S.ae i a z] at e; cases e
      obtain ⟨q1, q2, q3⟩ := S.w.ex a o e
      exact ⟨q1, by rw [outN a ha]; exact q2, q3⟩
  have ex : Ext G H (lkN G H (A i)) H := ⟨rfl, rfl, rfl, rfl, le, fun a o e => by
    by_cases ha : a ∈ A i
    · exact .inr (h0 a ha)
    · rw [outN a ha] at e; exact .inl e, TupLe.rf _, w⟩
  have hlt : i < Γ.length := (List.getElem?_eq_some_iff.mp hi).1
  refine ⟨⟨fun j => if j = i then [] else A j, w, by rw [List.length_set]; exact S.len, fun j s h => ?_, fun j p hp => ?_, fun j p hp => ?_, fun j k p hj hk => ?_, rf_set S.rf rfl (fun j hj => if_neg hj) fun j hj => rfl⟩, ex⟩
  · by_cases hj : j = i
    · subst hj
      rw [List.getElem?_set_self hlt] at h
      cases h
      rw [if_pos rfl]
      exact ⟨rfl, v, h1, TreOk.dn le h2 (fun a ha o ho => by show (lkN G H (A j)).N a = some o; rw [inN a ha]; exact ho) d hd⟩
    · rw [List.getElem?_set_ne (Ne.symm hj)] at h
      rw [if_neg hj]
      exact (S.sl j s h).mono ex fun a _ => rfl
  · have hp : p ∈ (if j = i then [] else A j) := hp
    by_cases hj : j = i
    · rw [if_pos hj] at hp; cases hp
    · rw [if_neg hj] at hp
      obtain ⟨q1, q2, q3⟩ := S.al j p hp
      exact ⟨q1, by rw [outN p fun z => hj (S.dj j i p hp z)]; exact q2, q3⟩
  · have hp : p ∈ (if j = i then [] else A j) := hp
    by_cases hj : j = i
    · rw [if_pos hj] at hp; cases hp
    · rw [if_neg hj] at hp
      exact S.ae j p hp
  · have hj : p ∈ (if j = i then [] else A j) := hj
    have hk : p ∈ (if k = i then [] else A k) := hk
    by_cases e1 : j = i
    · rw [if_pos e1] at hj; cases hj
    · by_cases e2 : k = i
      · rw [if_pos e2] at hk; cases hk
      · rw [if_neg e1] at hj
        rw [if_neg e2] at hk
        exact S.dj j k p hj hk
def Sl.fix : Sl → Bool
  | .own _ => false
  | .io _ => false
  | .pool _ => false
  | .ref _ _ => false
  | _ => true
def allFix (Γ : List Sl) (i : Nat) : Bool := (Γ.set i .un).all Sl.fix
theorem SlOk.fix0 {K : PySem.W.Frag} {G : Gh} {H : Hp} {i : Nat} {ov : Option (Option V)} {fp : List Addr} {s : Sl} (h : SlOk K G H i ov fp s) (hs : s.fix = true) : fp = [] := by
  cases s with
  | un => exact h
  | dat _ _ => exact h.1
  | lent _ => exact h.1
  | al _ _ => exact h.1
  | own _ => cases hs
  | io _ => cases hs
  | pool _ => cases hs
  | ref _ _ => cases hs
theorem StaA.unlockT {K : PySem.W.Frag} {G G2 : Gh} {H H2 : Hp} {σ : St} {Γ : List Sl} {A : Nat → List Addr} {i : Nat} {T : Tre} (S : StaA K G H σ Γ A) (hi : Γ[i]? = some (.own (.tr T))) (ha : allFix Γ i = true) (e : Ext (lkN G H (A i)) H G2 H2) :
    Sta K ⟨G2.H0, G2.P, G2.I, cutH (A i) G2.N, G2.E⟩ H2 σ Γ ∧ Ext G H ⟨G2.H0, G2.P, G2.I, cutH (A i) G2.N, G2.E⟩ H2 := by
  obtain ⟨v, h1, h0, h2, h2b⟩ := S.sl i _ hi
  have nA : ∀ a o, G.N a = some o → a ∉ A i := fun a o q z => by rw [(S.al i a z).2.1] at q; cases q
  have inN : ∀ a ∈ A i, (lkN G H (A i)).N a = H a := fun a ha => by
    show (if a ∈ A i then H a else G.N a) = _
    rw [if_pos ha]
  have outN : ∀ a, a ∉ A i → (lkN G H (A i)).N a = G.N a := fun a ha => by
    show (if a ∈ A i then H a else G.N a) = _
    rw [if_neg ha]
  have cin : ∀ a ∈ A i, cutH (A i) G2.N a = none := fun a ha => if_pos ha
  have cout : ∀ a, a ∉ A i → cutH (A i) G2.N a = G2.N a := fun a ha => if_neg ha
  have same : ∀ a ∈ A i, H2 a = H a := fun a ha => by
    cases q : H a with
    | none => exact absurd q (S.al i a ha).1
    | some o => exact (e.w.new a o (e.n a o (by rw [inN a ha]; exact q))).1
  have w : Wf ⟨G2.H0, G2.P, G2.I, cutH (A i) G2.N, G2.E⟩ H2 := by
    refine ⟨e.w.keep, fun a o q => ⟨?_, trivial⟩, e.w.pal, e.w.p0, fun a o q => ?_, e.w.iv⟩
    · have q : cutH (A i) G2.N a = some o := q
      by_cases ha : a ∈ A i
      · rw [cin a ha] at q; cases q
      · rw [cout a ha] at q; exact (e.w.new a o q).1
    · obtain ⟨q1, q2, q3⟩ := e.w.ex a o q
      refine ⟨q1, ?_, q3⟩
      show cutH (A i) G2.N a = none
      by_cases ha : a ∈ A i
      · exact cin a ha
      · rw [cout a ha]; exact q2
  have ex : Ext G H ⟨G2.H0, G2.P, G2.I, cutH (A i) G2.N, G2.E⟩ H2 := by
    refine ⟨e.h0, e.p, e.i, e.e, fun a o q => ?_, fun a o q => ?_, e.t, w⟩
    · show cutH (A i) G2.N a = some o
      rw [cout a (nA a o q)]
      exact e.n a o (by rw [outN a (nA a o q)]; exact q)
    · have q : cutH (A i) G2.N a = some o := q
      by_cases ha : a ∈ A i
      · rw [cin a ha] at q; cases q
      · rw [cout a ha] at q
        have := e.nn a o q
        rw [outN a ha] at this
        exact this
  have fx : ∀ j, j ≠ i → ∀ s, Γ[j]? = some s → s.fix = true := fun j hj s hs => by
    have m : s ∈ Γ.set i .un := List.mem_of_getElem? (i := j) (by rw [List.getElem?_set_ne (Ne.symm hj)]; exact hs)
    exact List.all_eq_true.mp ha s m
  have lenA : ∀ j p, p ∈ A j → j < Γ.length → j ≠ i → False := fun j p hp hl hj => by
    have hs : Γ[j]? = some Γ[j] := List.getElem?_eq_getElem hl
    have := (S.sl j _ hs).fix0 (fx j hj _ hs)
    rw [this] at hp; cases hp
  refine ⟨⟨fun j => if j < Γ.length then A j else [], w, S.len, fun j s h => ?_, fun j p hp => ?_, fun j p hp => ?_, fun j k p hj hk => ?_, fun a j k ns q1 q2 => ?_⟩, ex⟩
  · have hl : j < Γ.length := (List.getElem?_eq_some_iff.mp h).1
    rw [if_pos hl]
    by_cases hj : j = i
    · subst hj
      rw [hi] at h
      cases h
      exact ⟨v, h1, fun p hp => by show G2.H0 p = none; rw [e.h0]; exact h0 p hp, Cl.mono (c := .tr T) ⟨h2, h2b⟩ ex.n same e.t⟩
    · refine (S.sl j s h).mono ex fun a z => ?_
      exact (lenA j a z hl hj).elim
  · have hp : p ∈ (if j < Γ.length then A j else []) := hp
    by_cases hl : j < Γ.length
    · rw [if_pos hl] at hp
      by_cases hj : j = i
      · subst hj
        refine ⟨by rw [same p hp]; exact (S.al j p hp).1, cin p hp, ?_⟩
        refine .inr ?_
        show G2.H0 p = none
        rw [e.h0]; exact h0 p hp
      · exact (lenA j p hp hl hj).elim
    · rw [if_neg hl] at hp; cases hp
  · have hp : p ∈ (if j < Γ.length then A j else []) := hp
    by_cases hl : j < Γ.length
    · rw [if_pos hl] at hp
      show G2.E p = none
      rw [e.e]; exact S.ae j p hp
    · rw [if_neg hl] at hp; cases hp
  · have hj : p ∈ (if j < Γ.length then A j else []) := hj
    have hk : p ∈ (if k < Γ.length then A k else []) := hk
    by_cases l1 : j < Γ.length
    · by_cases l2 : k < Γ.length
      · rw [if_pos l1] at hj
        rw [if_pos l2] at hk
        exact S.dj j k p hj hk
      · rw [if_neg l2] at hk; cases hk
    · rw [if_neg l1] at hj; cases hj
  · have hl : j < Γ.length := (List.getElem?_eq_some_iff.mp q2).1
    rw [if_pos hl]
    exact S.rf a j k ns q1 q2
def tLkT (i : Nat) (t : DT) : DT := fun Γ => match Γ[i]? with
  | some (.own (.tr T)) => match trD T with
    | some d => (R.req (allFix Γ i)).bind fun _ => (t (Γ.set i (.dat true d))).nox.bind fun z => .val (z.1, Γ)
    | none => .bad
  | _ => .bad
section
variable {X : Cx} {W : WX} {e : Expr} {t : DT}
theorem ct_lk (i : Nat) (h : CT X W e t) : CT X W e (tLkT i t) := fun Γ => by
  unfold tLkT
  split
  · rename_i T hi
    split
    · rename_i d hd
      refine pt_imp (h (Γ.set i (.dat true d))) fun σ H Q ⟨G, ⟨A, S⟩, p⟩ => ?_
      obtain ⟨ha, p⟩ := Pst.req p
      obtain ⟨S1, e1⟩ := S.lockT hi hd
      refine ⟨_, S1, ?_⟩
      cases ht : t (Γ.set i (.dat true d)) with
      | bad => rw [ht] at p; exact p.elim
      | exc x => rw [ht] at p; exact p.elim
      | val z =>
        rw [ht] at p
        intro G2 H2 e2 _
        obtain ⟨S3, e3⟩ := S.unlockT hi ha e2
        exact p _ H2 e3 S3
    · exact pt_imp (h Γ) fun σ H Q ⟨G, S, p⟩ => p.elim
  · exact pt_imp (h Γ) fun σ H Q ⟨G, S, p⟩ => p.elim
end
end PD
set_option Elab.async false
set_option linter.all false
set_option maxRecDepth 100000
set_option maxHeartbeats 4000000
set_option autoImplicit false
namespace PD
open PySem PySem.Spec L2
theorem TresOk.dl {K : PySem.W.Frag} {G : Rg} {H : Hp} : ∀ {ts : List Tre} {vs : List V} {fp : List Addr}, TresOk K G H vs fp ts → ∃ fq, TresOk K G H vs.dropLast fq ts.dropLast ∧ ∀ a ∈ fq, a ∈ fp
  | [], _, _, .nil => ⟨[], .nil, fun _ h => h⟩
  | [_], _, _, .cons h .nil n => ⟨[], .nil, fun _ z => by cases z⟩
  | t :: u :: ts, _, _, .cons (f1 := f1) (f2 := f2) (vs := vs) h a n => by
    obtain ⟨fq, q1, q2⟩ := TresOk.dl a
    have hv : ∃ w ws, vs = w :: ws := by
      cases a with
      | cons _ _ _ => exact ⟨_, _, rfl⟩
    obtain ⟨w, ws, rfl⟩ := hv
    refine ⟨f1 ++ fq, .cons h q1 fun p hp hq => n p hp (q2 p hq), fun p hp => ?_⟩
    rcases List.mem_append.mp hp with z | z
    · exact List.mem_append_left _ z
    · exact List.mem_append_right _ (q2 p z)
def bPopP (i : Nat) (ps : DPs) : DS := fun Γ => (R.ofO (pPart i ps Γ)).bind fun w => match w.2.2.2 with
  | .lst us => (R.req (!us.isEmpty)).bind fun _ => .val (.nx, Γ.set i (mkS w.2.1 (.tr (w.2.2.1.put w.1 (.lst us.dropLast)))))
  | _ => .bad
section
variable {X : Cx} {W : WX}
theorem c1_popP (i : Nat) (ps : DPs) {o : Expr} {apos cpos pos : Pos} (ho : CPt X W o i ps) (hline : (apos.endLine == cpos.line) = true := by rfl) (hbase : attributeBase o "pop" X.env (eval o X.env) = eval o X.env := by rfl)
    (hsw : swapsWith (.Call (.Attribute o "pop" apos) [] [] cpos) none pos.line X.env = pure false := by rfl) : C1 X W (.Expr (.Call (.Attribute o "pop" apos) [] [] cpos) pos) (bPopP i ps) := fun Γ => by
  unfold bPopP
  cases hw : pPart i ps Γ with
  | none => exact ⟨fun pins s σ H D I ⟨G, S, q⟩ => q.elim⟩
  | some w =>
  obtain ⟨ss, hss, hw'⟩ := Option.bind_eq_some_iff.mp hw
  obtain ⟨q0, hz, rfl⟩ := Option.map_eq_some_iff.mp hw'
  refine ps_imp (ps_expr (pe_bm0 PySem.F.plainAttrs_list PySem.F.slot_list_pop PySem.F.type_list_pop mt_pop (ho Γ ss hss) hbase hline) hsw) fun D σ H ⟨G, S, pp⟩ => ?_
  have pp : Pst X W G H σ (match q0.2.2 with
    | .lst us => (R.req (!us.isEmpty)).bind fun _ => .val (Fw.nx, Γ.set i (mkS q0.1 (.tr (q0.2.1.put ss (.lst us.dropLast)))))
    | _ => .bad) _ := pp
  obtain ⟨v0, v', fp, g1, gp, g2, g3, g4, g5, g7, g6⟩ := S.partU hz
  split at pp
  · rename_i us hu
    obtain ⟨hsz, pp⟩ := Pst.req pp
    rw [hu] at g2
    cases g2 with
    | lst hp ht hn =>
      rename_i a vs fr
      have hne : us ≠ [] := fun z => by rw [z] at hsz; cases hsz
      have hlen : vs.length = us.length := ht.length
      have hpos : 0 < vs.length := by rw [hlen]; exact List.length_pos_iff.mpr hne
      obtain ⟨u, hu2⟩ : ∃ u, vs[vs.length - 1]? = some u := ⟨_, List.getElem?_eq_getElem (by omega)⟩
      have t := tup_mut (o' := .lst vs.dropLast) hp (fun xs z => by cases z)
      have hN : ∀ b o, G.N b = some o → b ≠ a := fun b o e z' => g4 true b o e (by rw [z']; simp)
      obtain ⟨fq, tq, sub⟩ := ht.dl
      have tr : TresOk X.K (RgN G) (upd H a (.lst vs.dropLast)) vs.dropLast fq us.dropLast := TresOk.mono (fun _ _ z => z) t tq fun b hb => upd_ne fun e => hn (e ▸ sub b hb)
      have hnq : a ∉ fq := fun z => hn (sub a z)
      have ne : ∀ b ∈ a :: fr, upd H a (.lst vs.dropLast) b ≠ none := fun b hb => by
        by_cases z : b = a
        · rw [z, upd_same]; simp
        · rw [upd_ne z]; exact g3 b hb
      obtain ⟨G', S', e', _⟩ := g6 (upd H a (.lst vs.dropLast)) G.N (a :: fq) (.lst us.dropLast) (fun b o e hb => by rw [upd_ne (fun z => hb (by simp [z]))]; exact e) ne t (fun b o e => ⟨by rw [upd_ne (hN b o e)]; exact (S.w.new b o e).1, .inr e⟩) (.lst upd_same tr hnq) (fun b hb => by
        have hb' : b ∈ a :: fr := by
          rcases List.mem_cons.mp hb with z | z
          · simp [z]
          · exact List.mem_cons_of_mem _ (sub b z)
        refine ⟨ne b hb', ?_, .inl hb'⟩
        cases q' : G.N b with
        | none => rfl
        | some o => exact absurd hb' (g4 true b o q'))
      exact ⟨G, S, v0, _, g1, gp, .inl ⟨rfl, vs, SqL.of hp⟩, a, vs, u, rfl, rfl, hp, hu2, pp G' _ e' _ S'⟩
  · exact pp.elim
theorem pu_c {e : Expr} {v : V} {d : PyData} (h : PE X e (tC v)) (hd : ∀ G H, Dn X.K G H v d) : CPu X W e (rC d) := fun Γ z hz => by
  cases hz
  exact pe_imp h fun σ H Q ⟨G, H0, S, k, q⟩ => q v (hd _ _)
def nXL (k : DX) : DN := fun Γ => (k Γ).bind fun z => match z.1 with
  | .c (.lst ds) => .val (ds, z.2)
  | _ => .bad
theorem cn_xl {e : Expr} {k : DX} (h : PD.CX X W e k) : CN X W e (nXL k) := fun Γ => pe_imp (h Γ) fun σ H Q ⟨G, S, q⟩ => ⟨G, S, (Pst.bind q).imp fun z G1 H1 e1 p1 => by
  obtain ⟨r, Γ1⟩ := z
  cases r with
  | d x => exact fun v S1 hv => (show False from p1).elim
  | c c =>
    cases c with
    | lst ds =>
      intro v H2 S1 ⟨fp, k1, k2, p, vs, hv, hfp, hp, hd⟩
      subst hv hfp
      have hH : H2 = upd H1 p (.lst vs) := by
        funext a
        by_cases q : a = p
        · rw [q, upd_same]; exact hp
        · rw [upd_ne q]; exact k1 a (by simpa using q)
      have hn : H1 p = none := (k2 p (by simp)).1
      subst hH
      exact p1 G1 H1 (Ext.rf S1.w) p vs S1 hn (hd.mono (fun _ _ z => z) fun a xs e => by
        by_cases q : a = p
        · rw [q, upd_same] at e; cases e
        · rw [upd_ne q] at e; exact e)
    | _ => exact fun v H2 S1 nc => (show False from p1).elim⟩
end
end PD
set_option Elab.async false
set_option linter.all false
set_option maxRecDepth 100000
set_option maxHeartbeats 4000000
set_option autoImplicit false
namespace PD
open PySem PySem.Spec L2
section
variable {X : Cx} {W : WX} {sc : Scope} {N : List Str} {x y : Str} {e : Expr} {es : List Expr} {p p1 pos pos2 : Pos} {k : DA} {m : List Ar → R (Rs × List Sl)} {j : Nat}
def bRetOD (i : Nat) : DS := fun Γ => match Γ[i]? with
  | some (.own _) => bRetO i Γ
  | _ => bRet (dVar i) Γ
theorem c1_retOD (C : Cf0 X W sc N) (i : Nat) (hN : N[i]? = some x) (hv : visB sc x = true) (hd : (x == ("__debug__" : Str)) = false := by decide +kernel) (hcd : (x == ("__classdict__" : Str)) = false := by decide +kernel) : C1 X W (.Return (some (.Name x p)) pos) (bRetOD i) := fun Γ => by
  unfold bRetOD
  split
  · exact c1_retO C i hN hv hd hcd Γ
  · exact c1_ret (ce_var C i hN hv hd hcd) Γ
def CRet (X : Cx) (W : WX) (ss : List Stmt) (i : Nat) (b : DS) : Prop := ∀ Γ, PSs X ss (fun D σ H => ∃ G, Sta X.K G H σ Γ ∧ Pst X W G H σ (b Γ) fun z G' H' => match z.1, z.2[i]? with
  | .nx, some (.io _) => ∀ σ' v, Sta X.K G' H' σ' z.2 → σ'[i]? = some (some v) → D.rt v H'
  | _, _ => False)
theorem cr_ret (C : Cf0 X W sc N) (i : Nat) (hN : N[i]? = some x) (hv : visB sc x = true) (hd : (x == ("__debug__" : Str)) = false := by decide +kernel) (hcd : (x == ("__classdict__" : Str)) = false := by decide +kernel) : CRet X W [.Return (some (.Name x p)) pos] i bNil := fun Γ =>
  pss_imp (pss_cons (ps_ret (pe_var (i := i) (by rw [C.hN]; exact hN) (by rw [C.hsc]; exact vis_of hv) hd hcd)) pss_nil) fun D σ H ⟨G, S, q⟩ => by
    have q := q G H (Ext.rf S.w)
    dsimp only [bNil] at q
    split at q
    · rename_i c _ hc
      obtain ⟨A, T⟩ := id S
      obtain ⟨v, h1, _⟩ := T.sl i _ hc
      exact ⟨v, h1, q σ v S h1⟩
    · exact q.elim
theorem cr_cons {s : Stmt} {ss : List Stmt} {b g : DS} {i : Nat} (hs : C1 X W s b) (hr : CRet X W ss i g) : CRet X W (s :: ss) i (bSeq b g) := fun Γ =>
  pss_imp (pss_cons (hs Γ) (pss_any fun Γ1 => hr Γ1)) fun D σ H ⟨G, S, q⟩ => ⟨G, S, (Pst.bind q).imp fun z G1 H1 e1 p1 => by
    obtain ⟨w, Γ1⟩ := z
    cases w with
    | nx => exact fun σ1 S1 => ⟨Γ1, G1, S1, p1⟩
    | bk => exact (p1 G1 H1 (Ext.rf e1.w)).elim
    | ct => exact (p1 G1 H1 (Ext.rf e1.w)).elim
    | rt r => exact (p1 G1 H1 (Ext.rf e1.w)).elim⟩
end
section
variable {P : Program} {w : World} {K : PySem.W.Frag} {mg : Str → Option Value} {base : Heap} {x qual : Str} {params : Arguments} {body : List Stmt} {scope : Scope} {dvs : List V} {kws : List (Str × V)} {f : Addr} {fd : FuncData} {N ps : List Str} {k : Nat}
theorem fn_wr (F : FunD K x qual params body scope dvs kws f fd) (S : FnScope N ps scope) {b : DS} (hle : ps.length ≤ N.length) (i : Nat)
    (hb : ∀ X W, Here X W P w K mg base scope N k → CRet X W body i b) :
    FnOk P w K mg base (L2N.CX P w) (k + 1) f fd ps (spW K mg (runB N.length ps.length (bW i b)) i) :=
  F.ok S (fun vs H Q E h => fn_len vs H _ E h) fun cdv A outer s H vs Q E hr hsp => by
    obtain ⟨Γ, G, St, p⟩ := fn_pre hle (X := cxOf (L2N.CX P w) P w K mg base N qual scope f cdv A outer s H E) rfl rfl hsp
    have here : Here (cxOf (L2N.CX P w) P w K mg base N qual scope f cdv A outer s H E) (fun cls d _ H => E cls d H) P w K mg base scope N k := here_of S hr
    refine ⟨_, hb _ _ here Γ, G, St, ?_⟩
    unfold bW at p
    split at p
    · rename_i c hc
      obtain ⟨A0, T0⟩ := id St
      obtain ⟨v0, hs0, hi0, _⟩ := T0.sl i _ hc
      have hv0 := start_some hs0
      refine (Pst.bind p).imp fun z G1 H1 e1 p1 => ?_
      obtain ⟨fw, Γ1⟩ := z
      simp only at p1
      split at p1
      · rename_i c1 hc1
        have q := p1 G1 H1 (Ext.rf e1.w)
        have hc1 : Γ1[i]? = some (.io c1) := hc1
        show (match Fw.nx, Γ1[i]? with
          | .nx, some (.io _) => ∀ σ' v, Sta _ G1 H1 σ' Γ1 → σ'[i]? = some (some v) → Q v H1
          | _, _ => False)
        rw [hc1]
        intro σ1 v1 S1 h1
        obtain ⟨A1, T1⟩ := id S1
        obtain ⟨v2, hs1, hi1, _⟩ := T1.sl i _ hc1
        rw [h1] at hs1
        cases hs1
        rw [e1.i, hi0] at hi1
        cases hi1
        exact q σ1 S1 v0 hv0
      · exact p1.elim
    · exact p.elim
end
def dCallW (j : Nat) (m : List Ar → R (Rs × List Sl)) (cs ks : List Bool) (k : DA) : DF := fun Γ => (k Γ).bind fun z =>
  (R.req (decide (((prsC cs z.1).map (·.2)).Nodup) && (prsC cs z.1).all fun y => ((cellAt z.2 y.2).map (·.1)) == some (flagC z.2 (prsC cs z.1)))).bind fun _ =>
  (R.ofO (rdCsM z.2 ((prsC cs z.1).map (·.2)) ks cs z.1)).bind fun ars => ((m (ars ++ ([] : List PyData).map Ar.d)).atCs (flagC z.2 (prsC cs z.1)) (prsC cs z.1) z.2).bind fun r => match r.1, z.1[j]? with
  | .d _, some (.s i) => .val (.s i, r.2)
  | _, _ => .bad
theorem avs_sl {K : PySem.W.Frag} {G : Gh} {H : Hp} {σ : L2.St} : ∀ {vs : List V} {as : List AV} {j i : Nat} {u : V}, AVs K G H σ vs as → as[j]? = some (.s i) → vs[j]? = some u → σ[i]? = some (some u)
  | _, _, j, i, u, .nil, h, _ => by simp at h
  | _, _, 0, i, u, .cons h a, h1, h2 => by
    simp at h1 h2
    subst h1 h2
    exact h
  | _, _, j + 1, i, u, .cons h a, h1, h2 => avs_sl (j := j) a (by simpa using h1) (by simpa using h2)
section
variable {X : Cx} {W : WX} {sc : Scope} {N : List Str} {x : Str} {e : Expr} {es : List Expr} {p pos : Pos} {k : DA} {m : List Ar → R (Rs × List Sl)} {j : Nat}
theorem ce_callW (C : Cf0 X W sc N) (cs ks : List Bool) (hc : Clee X x [] (spW X.K X.mg m j)) (hg : glB sc x = true) (ha : CA X W (e :: es) k)
    (hdb : (x == ("__debug__" : Str)) = false := by decide +kernel) (he : starEach (e :: es) X.env = (false, eval e X.env) :: starEach es X.env := by rfl) (hpl : (backTo pos (starEach es X.env)).any (·.1) = false := by rfl) :
    CE X W (.Call (.Name x p) (e :: es) [] pos) (dCallW j m cs ks k) := fun Γ => by
  obtain ⟨k', f, fd, ps, dss, F, hr, hm, hk, hb, hd⟩ := hc
  refine pe_imp (pe_callSD (E := fun σ cls d H => W cls d σ H) F hr (C.gl hg) hm hk hb hd (fun σ => L2N.passAt C.tk σ) (ha Γ) hdb he hpl) fun σ H Q ⟨G, S, q⟩ => ⟨G, S, (Pst.bind q).imp fun z G1 H1 e1 p1 vs S1 av => ?_⟩
  obtain ⟨h0, p1⟩ := Pst.req p1
  rw [Bool.and_eq_true] at h0
  obtain ⟨ars, h3, p1⟩ := Pst.ofO p1
  refine callCsM_core (b := flagC z.2 (prsC cs z.1)) (dvs := []) (dds := []) (fun _ _ => .nil) S1 av (of_decide_eq_true h0.1) (fun y hy => ?_) h3 ((Pst.bind p1).imp fun r G2 H2 e2 p2 S2 => ?_)
  · have := List.all_eq_true.mp h0.2 y hy
    cases hz : cellAt z.2 y.2 with
    | none => rw [hz] at this; simp at this
    | some ic =>
      rw [hz] at this
      have : ic.1 = flagC z.2 (prsC cs z.1) := by simpa using this
      exact ⟨ic.2, by rw [← this]⟩
  split at p2
  · rename_i y i hz hi
    rw [hz]
    exact fun v hv u hu => p2 G2 H2 (Ext.rf S2.w) u S2 (avs_sl av hi (by simpa using hu))
  · exact p2.elim
end
end PD
set_option Elab.async false
set_option linter.all false
set_option maxRecDepth 100000
set_option maxHeartbeats 0
namespace PDW
open PySem PySem.Spec PyProof.Rows L2 PD
theorem obD_eq (z : PySem.W.SharedT) : obD z = hkD.obs z.abs := PD.obsXG_eq (HandSHeadRun.getT_eq z)
end PDW
set_option linter.all false
set_option maxRecDepth 100000
set_option autoImplicit false
namespace PD
open PySem L2
def Ok {α : Type} (m : R α) (P : α → Prop) : Prop := ∃ a, m = .val a ∧ P a
section
variable {α β : Type} {P : α → Prop} {Q : β → Prop}
theorem ok_val {a : α} (h : P a) : Ok (.val a) P := ⟨a, rfl, h⟩
theorem ok_bind {m : R α} {k : α → R β} (h : Ok m P) (hk : ∀ a, P a → Ok (k a) Q) : Ok (m.bind k) Q := by
  obtain ⟨a, rfl, p⟩ := h
  exact hk a p
theorem Ok.mono {P' : α → Prop} {m : R α} (h : Ok m P) (hk : ∀ a, P a → P' a) : Ok m P' := by
  obtain ⟨a, e, p⟩ := h
  exact ⟨a, e, hk a p⟩
theorem ok_of {m : R α} {a : α} (h : m = .val a) (p : P a) : Ok m P := ⟨a, h, p⟩
theorem ok_eq {m : R α} {a : α} (h : Ok m fun z => z = a) : m = .val a := by
  obtain ⟨b, e, rfl⟩ := h
  exact e
end
theorem bind_val {α β : Type} (a : α) (k : α → R β) : (R.val a).bind k = k a := rfl
theorem req_true : R.req true = .val () := rfl
theorem ofO_some {α : Type} (a : α) : R.ofO (some a) = .val a := rfl
theorem gq_of {α : Type} {c : Bool} (a : α) (h : c = true) : gq c a = .val a := by subst h; rfl
theorem ok_loopU {is : List Nat} {g : DG} {fr : Bool} {b : DS} {Post : Fw × List Sl → Prop} (Inv : Nat → List Sl → Prop) (ds : List PyData) {Γ : List Sl} (h0 : Inv 0 (wipeG Γ is))
    (hb : ∀ i d Γ, ds[i]? = some d → Inv i Γ → ∃ Γ1, g fr d Γ = some Γ1 ∧ Ok (b Γ1) fun z => match z.1 with
      | .nx => Inv (i + 1) (wipeG z.2 is)
      | .ct => Inv (i + 1) (wipeG z.2 is)
      | .bk => Post (.nx, wipeG z.2 is)
      | .rt r => Post (.rt r, z.2)) (hd : ∀ Γ, Inv ds.length Γ → Post (.nx, Γ)) : Ok (loopU is g fr b ds Γ) Post := by
  have key : ∀ (n : Nat) (xs : List PyData) (Γ : List Sl), (∀ j, xs[j]? = ds[n + j]?) → n + xs.length = ds.length → Inv n (wipeG Γ is) → Ok (loopU is g fr b xs Γ) Post := by
    intro n xs
    induction xs generalizing n with
    | nil =>
      intro Γ _ hl h
      unfold loopU
      refine ok_val (hd _ ?_)
      have : ds.length = n := by simpa using hl.symm
      rw [this]; exact h
    | cons d xs ih =>
      intro Γ hx hl h
      unfold loopU
      obtain ⟨Γ1, e1, o⟩ := hb n d _ (by have := hx 0; simpa using this.symm) h
      rw [e1, ofO_some, bind_val]
      refine ok_bind o fun z hz => ?_
      obtain ⟨w, Γ2⟩ := z
      have hx' : ∀ j, xs[j]? = ds[n + 1 + j]? := fun j => by
        have := hx (j + 1)
        simp only [List.getElem?_cons_succ] at this
        rw [this]; congr 1; omega
      cases w with
      | nx => exact ih (n + 1) Γ2 hx' (by simp at hl; omega) hz
      | ct => exact ih (n + 1) Γ2 hx' (by simp at hl; omega) hz
      | bk => exact ok_val hz
      | rt r => exact ok_val hz
  exact key 0 ds Γ (fun j => by simp) (by simp) h0
theorem ok_compU {vs : List Nat} {g : DG} {fr : Bool} {t : DT} {e : DF} {Post : List PyData × List Sl → Prop} (Inv : Nat → List PyData → List Sl → Prop) (ds : List PyData) {Γ : List Sl} (h0 : Inv 0 [] Γ)
    (hb : ∀ i d out Γ, ds[i]? = some d → Inv i out Γ → ∃ Γ1, g fr d Γ = some Γ1 ∧ Ok (t Γ1) fun x => if x.1 then Ok (e x.2) fun y => ∃ o, avD y.1 = some o ∧ Inv (i + 1) (out ++ [o]) (wipeG y.2 vs) else Inv (i + 1) out (wipeG x.2 vs))
    (hd : ∀ out Γ, Inv ds.length out Γ → Post (out, Γ)) : Ok (compU vs g fr t e ds Γ) Post := by
  have key : ∀ (n : Nat) (xs : List PyData) (pre : List PyData) (Γ : List Sl), (∀ j, xs[j]? = ds[n + j]?) → n + xs.length = ds.length → Inv n pre Γ → Ok (compU vs g fr t e xs Γ) fun z => Post (pre ++ z.1, z.2) := by
    intro n xs
    induction xs generalizing n with
    | nil =>
      intro pre Γ _ hl h
      unfold compU
      refine ok_val ?_
      have : ds.length = n := by simpa using hl.symm
      show Post (pre ++ [], Γ)
      rw [List.append_nil]
      exact hd _ _ (by rw [this]; exact h)
    | cons d xs ih =>
      intro pre Γ hx hl h
      rw [compU_cons]
      obtain ⟨Γ1, e1, o⟩ := hb n d pre Γ (by have := hx 0; simpa using this.symm) h
      have hx' : ∀ j, xs[j]? = ds[n + 1 + j]? := fun j => by
        have := hx (j + 1)
        simp only [List.getElem?_cons_succ] at this
        rw [this]; congr 1; omega
      rw [e1]
      obtain ⟨x, ex, ox⟩ := o
      rw [ofO_some, bind_val, ex]
      show Ok (if x.1 then _ else _) _
      by_cases hc : x.1 = true
      · rw [if_pos hc] at ox ⊢
        obtain ⟨y, ey, w, ew, hw⟩ := ox
        rw [ey]
        show Ok ((R.ofO (avD y.1)).bind _) _
        rw [ew, ofO_some, bind_val]
        refine ok_bind (ih (n + 1) (pre ++ [w]) _ hx' (by simp at hl; omega) hw) fun r hr => ok_val ?_
        show Post (pre ++ w :: r.1, r.2)
        have : pre ++ w :: r.1 = pre ++ [w] ++ r.1 := by simp
        rw [this]; exact hr
      · rw [if_neg hc] at ox ⊢
        exact ih (n + 1) pre _ hx' (by simp at hl; omega) ox
  have := key 0 ds [] Γ (fun j => by simp) (by simp) h0
  refine this.mono fun z hz => ?_
  simpa using hz
end PD
set_option linter.all false
set_option maxRecDepth 100000
set_option autoImplicit false
namespace PD
open PySem L2
section
variable {Γ Γ1 Γ2 Γ3 : List Sl} {f g h : DF} {k : DA} {n : DN} {c : DC} {t t2 : DT} {fr fr2 : Bool} {d : PyData} {i j : Int} {z z2 : Bool} {ds es : List PyData} {a b : AV} {as : List AV}
theorem e_var {m : Nat} (e : Γ[m]? = some (.dat fr d)) : dVar m Γ = .val (.d fr d, Γ) := by unfold dVar; rw [e]
theorem e_varO {m : Nat} {c : Cl} (e : Γ[m]? = some (.own c)) : dVar m Γ = .val (.s m, Γ) := by unfold dVar; rw [e]
theorem e_varI {m : Nat} {c : Cl} (e : Γ[m]? = some (.io c)) : dVar m Γ = .val (.s m, Γ) := by unfold dVar; rw [e]
theorem e_C : dC d Γ = .val (.d true d, Γ) := rfl
theorem e_I {kk : Int → Int → R Int} {r : Int} (h1 : f Γ = .val (.d fr (.int i), Γ1)) (h2 : g Γ1 = .val (.d fr2 (.int j), Γ2)) (h3 : kk i j = .val r) : dI kk f g Γ = .val (.d true (.int r), Γ2) := by
  unfold dI; rw [h1, bind_val, h2, bind_val]; simp only; rw [h3, bind_val]
theorem k_sub : kSub i j = .val (i - j) := rfl
theorem k_and : kAnd i j = .val (Builtin.bitAnd i j) := rfl
theorem k_or : kOr i j = .val (Builtin.bitOr i j) := rfl
theorem k_mul (e : cMulX i j = true) : kMul i j = .val (i * j) := gq_of _ e
theorem k_div (e : cDiv i j = true) : kDiv i j = .val (i / j) := gq_of _ e
theorem k_mod (e : cMod i j = true) : kMod i j = .val (i % j) := gq_of _ e
theorem k_pow (e : cPow i j = true) : kPow i j = .val (i ^ j.toNat) := gq_of _ e
theorem k_shl (e : cShl i j = true) : kShl i j = .val (i * 2 ^ j.toNat) := gq_of _ e
theorem k_shr (e : cShr i j = true) : kShr i j = .val (i / 2 ^ j.toNat) := gq_of _ e
theorem e_add (h1 : f Γ = .val (.d fr (.int i), Γ1)) (h2 : g Γ1 = .val (.d fr2 (.int j), Γ2)) : dAdd f g Γ = .val (.d true (.int (i + j)), Γ2) := by
  unfold dAdd; rw [h1, bind_val, h2, bind_val]; rfl
theorem e_neg (h1 : f Γ = .val (.d fr (.int i), Γ1)) : dNeg f Γ = .val (.d true (.int (-i)), Γ1) := by
  unfold dNeg; rw [h1, bind_val]
theorem e_cmp {kk : List Sl → AV → AV → R Bool} (h1 : f Γ = .val (a, Γ1)) (h2 : g Γ1 = .val (b, Γ2)) (h3 : kk Γ2 a b = .val z) : dCmp kk f g Γ = .val (.d true (.bool z), Γ2) := by
  unfold dCmp boolR; rw [h1, bind_val, h2, bind_val, h3, bind_val]
theorem k_eqI : kEq Γ (.d fr (.int i)) (.d fr2 (.int j)) = .val (decide (i = j)) := by unfold kEq rdD; exact gq_of _ rfl
theorem k_neI : kNe Γ (.d fr (.int i)) (.d fr2 (.int j)) = .val (!decide (i = j)) := by unfold kNe; rw [k_eqI]; rfl
theorem k_eq {p q : PyData} (h1 : rdD Γ a = some p) (h2 : rdD Γ b = some q) (s1 : SeqAt.shaped p = true) (s2 : SeqAt.shaped q = true) (e : PyData.eqv p q = z) : kEq Γ a b = .val z := by
  unfold kEq; rw [h1, h2]; simp only [s1, s2, Bool.and_true]; rw [e]; rfl
theorem k_ne {p q : PyData} (h1 : rdD Γ a = some p) (h2 : rdD Γ b = some q) (s1 : SeqAt.shaped p = true) (s2 : SeqAt.shaped q = true) (e : PyData.eqv p q = z) : kNe Γ a b = .val (!z) := by
  unfold kNe; rw [k_eq h1 h2 s1 s2 e]; rfl
theorem k_I {r : Int → Int → Bool} : kI r Γ (.d fr (.int i)) (.d fr2 (.int j)) = .val (r i j) := rfl
theorem t_tst (h1 : f Γ = .val (.d fr (.bool z), Γ1)) : dTst f Γ = .val (z, Γ1) := by unfold dTst; rw [h1]; rfl
theorem t_not (h1 : t Γ = .val (z, Γ1)) : dTnot t Γ = .val (!z, Γ1) := by unfold dTnot; rw [h1]; rfl
theorem t_or (h1 : t Γ = .val (z, Γ1)) (h2 : z = false → t2 Γ1 = .val (z2, Γ1)) : dTor t t2 Γ = .val (z || z2, Γ1) := by
  unfold dTor; rw [h1, bind_val]
  cases z with
  | true => rfl
  | false =>
    show ((t2 Γ1).bind fun y => R.val y) = _
    rw [h2 rfl]; rfl
theorem t_and (h1 : t Γ = .val (z, Γ1)) (h2 : z = true → t2 Γ1 = .val (z2, Γ1)) : dTand t t2 Γ = .val (z && z2, Γ1) := by
  unfold dTand; rw [h1, bind_val]
  cases z with
  | false => rfl
  | true =>
    show ((t2 Γ1).bind fun y => R.val y) = _
    rw [h2 rfl]; rfl
theorem e_not (h1 : f Γ = .val (.d fr (.bool z), Γ1)) : dNot f Γ = .val (.d true (.bool (!z)), Γ1) := by unfold dNot; rw [h1]; rfl
theorem e_and (h1 : f Γ = .val (.d fr (.bool z), Γ1)) (h2 : z = true → g Γ1 = .val (.d fr2 (.bool z2), Γ1)) : dAnd f g Γ = .val (.d true (.bool (z && z2)), Γ1) := by
  unfold dAnd; rw [h1, bind_val]
  cases z with
  | false => rfl
  | true => show ((g Γ1).bind _) = _; rw [h2 rfl]; rfl
theorem e_or (h1 : f Γ = .val (.d fr (.bool z), Γ1)) (h2 : z = false → g Γ1 = .val (.d fr2 (.bool z2), Γ1)) : dOr f g Γ = .val (.d true (.bool (z || z2)), Γ1) := by
  unfold dOr; rw [h1, bind_val]
  cases z with
  | true => rfl
  | false => show ((g Γ1).bind _) = _; rw [h2 rfl]; rfl
theorem a_nil : dA0 Γ = .val ([], Γ) := rfl
theorem a_cons (h1 : f Γ = .val (a, Γ1)) (h2 : k Γ1 = .val (as, Γ2)) : dAc f k Γ = .val (a :: as, Γ2) := by unfold dAc; rw [h1, bind_val, h2]; rfl
theorem e_frz (h1 : f Γ = .val (.d true d, Γ1)) : dFrz f Γ = .val (.d true d, Γ1) := by unfold dFrz; rw [h1]; rfl
theorem e_frzF (h1 : f Γ = .val (.d false d, Γ1)) : dFrz f Γ = .val (.d (flat d) d, Γ1) := by unfold dFrz; rw [h1]; rfl
theorem e_frzD (h1 : f Γ = .val (.d fr d, Γ1)) : dFrz f Γ = .val (.d (fr || flat d) d, Γ1) := by
  cases fr with
  | true => exact e_frz h1
  | false => rw [Bool.false_or]; exact e_frzF h1
theorem n_lst (h1 : k Γ = .val (as, Γ1)) (h2 : allT as = some ds) (h3 : szB as = true) : dLst k Γ = .val (ds, Γ1) := by
  unfold dLst; rw [h1, bind_val]; simp only [h2]; exact gq_of _ h3
theorem e_tup (h1 : k Γ = .val (as, Γ1)) (h2 : allF as = some (ds, fr)) (h3 : szB as = true) : dTup k Γ = .val (.d fr (.tuple ds), Γ1) := by
  unfold dTup; rw [h1, bind_val]; simp only [h2]; exact gq_of _ h3
theorem e_ofN (h1 : n Γ = .val (ds, Γ1)) : dOfN n Γ = .val (.d true (.list ds), Γ1) := by unfold dOfN; rw [h1]; rfl
theorem c_l (h1 : n Γ = .val (ds, Γ1)) : nL n Γ = .val (.lst ds, Γ1) := by unfold nL; rw [h1]; rfl
theorem x_c {cl : Cl} (h1 : c Γ = .val (cl, Γ1)) : xC c Γ = .val (.c cl, Γ1) := by unfold xC; rw [h1]; rfl
theorem x_e (h1 : f Γ = .val (.d true d, Γ1)) : xE f Γ = .val (.d d, Γ1) := by unfold xE; rw [h1]; rfl
theorem e_xd {x : DX} (h1 : x Γ = .val (.d d, Γ1)) : eX x Γ = .val (.d true d, Γ1) := by unfold eX; rw [h1]; rfl
theorem e_ixL (h1 : f Γ = .val (.d fr (.list ds), Γ1)) (h2 : g Γ1 = .val (.d fr2 (.int i), Γ2)) (h3 : atI ds i = some d) : dIxB f g Γ = .val (.d fr d, Γ2) := by
  unfold dIxB; rw [h1, bind_val, h2, bind_val]; unfold ixB dicA ixA; simp only [h3]; rfl
theorem e_ixT (h1 : f Γ = .val (.d fr (.tuple ds), Γ1)) (h2 : g Γ1 = .val (.d fr2 (.int i), Γ2)) (h3 : atI ds i = some d) : dIxB f g Γ = .val (.d fr d, Γ2) := by
  unfold dIxB; rw [h1, bind_val, h2, bind_val]; unfold ixB dicA ixA; simp only [h3]; rfl
theorem e_ixS {m : Nat} (h1 : f Γ = .val (.s m, Γ1)) (h2 : g Γ1 = .val (.d fr2 (.int i), Γ2)) (h4 : rdD Γ2 (.s m) = some (.list ds)) (h3 : atI ds i = some d) : dIxB f g Γ = .val (.d true d, Γ2) := by
  unfold dIxB; rw [h1, bind_val, h2, bind_val]
  have e : dicA Γ2 (.s m) = none := by
    unfold rdD at h4
    unfold dicA
    simp only at h4 ⊢
    split at h4 <;> simp_all
  show (ixB Γ2 (.s m) (.d fr2 (.int i))).bind _ = _
  unfold ixB
  rw [e]
  simp only [ixA, h4, h3]
  rfl
theorem e_B {q : List Sl → List AV → R AV} (h1 : k Γ = .val (as, Γ1)) (h2 : q Γ1 as = .val a) : dB q k Γ = .val (a, Γ1) := by unfold dB; rw [h1, bind_val, h2]; rfl
theorem n_B {q : List Sl → List AV → R (List PyData)} (h1 : k Γ = .val (as, Γ1)) (h2 : q Γ1 as = .val ds) : dBN q k Γ = .val (ds, Γ1) := by unfold dBN; rw [h1, bind_val, h2]; rfl
theorem k_lenL (h : rdD Γ a = some (.list ds)) : kLen Γ [a] = .val (.d true (.int (ds.length : Nat))) := by unfold kLen; simp only [h]
theorem k_lenT (h : rdD Γ a = some (.tuple ds)) : kLen Γ [a] = .val (.d true (.int (ds.length : Nat))) := by unfold kLen; simp only [h]
theorem x_call {m : List Ar → R (Rs × List Sl)} {dds : List PyData} {r : Rs} {Z : List Sl} (h1 : k Γ = .val (as, Γ1)) (h2 : rdDs Γ1 none as = some ds) (h3 : m ((ds ++ dds).map Ar.d) = .val (r, Z)) : xCall m dds k Γ = .val (r, Γ1) := by
  unfold xCall; rw [h1, bind_val, h2, ofO_some, bind_val, h3]; rfl
theorem x_callC {m : List Ar → R (Rs × List Sl)} {dds : List PyData} {r : Rs} {Z : List Sl} {p q : Nat} {ic : Bool × Cl} {cl : Cl} (h1 : k Γ = .val (as, Γ1)) (h2 : pickC p as = some q) (h3 : cellAt Γ1 q = some ic) (h4 : rdDs Γ1 (some q) (as.eraseIdx p) = some ds) (h5 : ic.2.fl = true) (h6 : m (insC p ic.2 (ds ++ dds)) = .val (r, Z)) (h7 : ioAt p Z = some cl) :
    xCallC m p dds k Γ = .val (r, Γ1.set q (mkS ic.1 cl)) := by
  unfold xCallC; rw [h1, bind_val]; unfold preC; rw [h2, ofO_some, bind_val, h3, ofO_some, bind_val, h4, ofO_some, bind_val, h5]
  show ((m (insC p ic.2 (ds ++ dds))).atC p Γ1 q ic.1).bind _ = _
  rw [h6]
  show ((R.ofO (ioAt p Z)).bind _).bind _ = _
  rw [h7]
  rfl
theorem i_seqL (h1 : f Γ = .val (.d fr (.list ds), Γ1)) : iSeq f Γ = .val ((ds, fr), Γ1) := by unfold iSeq; rw [h1]; rfl
theorem i_seqT (h1 : f Γ = .val (.d fr (.tuple ds), Γ1)) : iSeq f Γ = .val ((ds, fr), Γ1) := by unfold iSeq; rw [h1]; rfl
theorem i_enumL (h1 : f Γ = .val (.d fr (.list ds), Γ1)) : iEnum f Γ = .val ((enumD ds, fr), Γ1) := by unfold iEnum; rw [h1]; rfl
theorem i_enumT (h1 : f Γ = .val (.d fr (.tuple ds), Γ1)) : iEnum f Γ = .val ((enumD ds, fr), Γ1) := by unfold iEnum; rw [h1]; rfl
theorem i_range1 (h1 : f Γ = .val (.d fr (.int j), Γ1)) (h2 : cRng 0 j = true) : iRange1 f Γ = .val (((rng 0 j).map PyData.int, true), Γ1) := by unfold iRange1; rw [h1, bind_val]; exact gq_of _ h2
theorem i_range2 (h1 : f Γ = .val (.d fr (.int i), Γ1)) (h3 : g Γ1 = .val (.d fr2 (.int j), Γ2)) (h2 : cRng i j = true) : iRange2 f g Γ = .val (((rng i j).map PyData.int, true), Γ2) := by unfold iRange2; rw [h1, bind_val, h3, bind_val]; exact gq_of _ h2
theorem n_lrng1 (h1 : f Γ = .val (.d fr (.int j), Γ1)) (h2 : cLrg 0 j = true) : dLrng1 f Γ = .val ((rng 0 j).map PyData.int, Γ1) := by unfold dLrng1; rw [h1, bind_val]; exact gq_of _ h2
theorem n_lrng2 (h1 : f Γ = .val (.d fr (.int i), Γ1)) (h3 : g Γ1 = .val (.d fr2 (.int j), Γ2)) (h2 : cLrg i j = true) : dLrng2 f g Γ = .val ((rng i j).map PyData.int, Γ2) := by unfold dLrng2; rw [h1, bind_val, h3, bind_val]; exact gq_of _ h2
theorem n_cat (h1 : f Γ = .val (a, Γ1)) (h2 : g Γ1 = .val (b, Γ2)) (h3 : lsA Γ2 a = some ds) (h4 : lsA Γ2 b = some es) (h5 : szB (ds ++ es) = true) : dCat f g Γ = .val (ds ++ es, Γ2) := by
  unfold dCat; rw [h1, bind_val, h2, bind_val, h3, ofO_some, bind_val, h4, ofO_some, bind_val]; exact gq_of _ h5
theorem e_isi {ts : List Tn} (h1 : f Γ = .val (a, Γ1)) (h2 : rdD Γ1 a = some d) (h3 : noDct d = true) : dIsi ts f Γ = .val (.d true (.bool (ts.any fun t => tyIs d t)), Γ1) := by
  unfold dIsi; rw [h1, bind_val]; simp only [h2]; exact gq_of _ h3
theorem e_app {m : Nat} {io : Bool} (h0 : cellL Γ m = some (io, es)) (h1 : f Γ = .val (.d true d, Γ1)) (h2 : cellL Γ1 m = some (io, ds)) (h3 : ltS ds = true) : dLm m qAppend (dAc (dFrz f) dA0) Γ = .val (.d true .none, Γ1.set m (mkS io (.lst (ds ++ [d])))) := by
  unfold dLm
  rw [h0, ofO_some, bind_val, a_cons (e_frz h1) a_nil, bind_val, h2, ofO_some, bind_val]
  show ((qAppend ds [.d true d]).bind _) = _
  unfold qAppend
  simp only [h3]
  rfl
end
def W (b : DS) (Γ : List Sl) (P : Fw → List Sl → Prop) : Prop := Ok (b Γ) fun z => P z.1 z.2
section
variable {Γ Γ1 Γ2 : List Sl} {f g : DF} {b r r2 : DS} {x : DX} {n : DC} {t : DT} {fr z : Bool} {d : PyData} {P : Fw → List Sl → Prop} {m : Nat}
theorem w_nil (h : P .nx Γ) : W bNil Γ P := ok_val h
theorem w_seq (h : W b Γ fun w Γ1 => match w with
    | .nx => W r Γ1 P
    | w => P w Γ1) : W (bSeq b r) Γ P := by
  unfold W bSeq
  refine ok_bind h fun z hz => ?_
  obtain ⟨w, Γ1⟩ := z
  cases w with
  | nx => exact hz
  | bk => exact ok_val hz
  | ct => exact ok_val hz
  | rt r => exact ok_val hz
theorem w_one (h : ∃ Γ1, b Γ = .val (.nx, Γ1) ∧ W r Γ1 P) : W (bSeq b r) Γ P := by
  obtain ⟨Γ1, e, h⟩ := h
  exact w_seq ⟨(.nx, Γ1), e, h⟩
theorem w_set (h1 : f Γ = .val (.d fr d, Γ1)) (h : W r (Γ1.set m (.dat fr d)) P) : W (bSeq (bSet m f) r) Γ P := w_one ⟨_, by unfold bSet; rw [h1]; rfl, h⟩
theorem w_setC {c : Cl} (h1 : n Γ = .val (c, Γ1)) (h : W r (Γ1.set m (.own c)) P) : W (bSeq (bSetC m n) r) Γ P := w_one ⟨_, by unfold bSetC; rw [h1]; rfl, h⟩
theorem w_setX {s : Rs} (h1 : x Γ = .val (s, Γ1)) (h : W r (Γ1.set m (rsS s)) P) : W (bSeq (bSetX m x) r) Γ P := w_one ⟨_, by unfold bSetX; rw [h1]; rfl, h⟩
theorem w_setG {gg : DG} (h1 : f Γ = .val (.d fr d, Γ1)) (h2 : gg fr d Γ1 = some Γ2) (h : W r Γ2 P) : W (bSeq (bSetG gg f) r) Γ P := w_one ⟨_, by unfold bSetG; rw [h1, bind_val]; simp only; rw [h2]; rfl, h⟩
theorem w_expr {a : AV} (h1 : f Γ = .val (a, Γ1)) (h : W r Γ1 P) : W (bSeq (bExpr f) r) Γ P := w_one ⟨_, by unfold bExpr; rw [h1]; rfl, h⟩
theorem w_exprX {s : Rs} {e : PyData} (h1 : x Γ = .val (s, Γ1)) (h2 : rsF s = some e) (h : W r Γ1 P) : W (bSeq (bExprX x) r) Γ P := w_one ⟨_, by unfold bExprX; rw [h1, bind_val, h2]; rfl, h⟩
theorem w_ret (h1 : f Γ = .val (.d true d, Γ1)) (h : P (.rt (.d d)) Γ1) : W (bSeq (bRet f) r) Γ P := w_seq ⟨(.rt (.d d), Γ1), by unfold bRet; rw [h1]; rfl, h⟩
theorem w_ret0 (h : P (.rt (.d .none)) Γ) : W (bSeq bRet0 r) Γ P := w_seq ⟨(.rt (.d .none), Γ), rfl, h⟩
theorem w_retC {c : Cl} (h1 : n Γ = .val (c, Γ1)) (h : P (.rt (.c c)) Γ1) : W (bSeq (bRetC n) r) Γ P := w_seq ⟨(.rt (.c c), Γ1), by unfold bRetC; rw [h1]; rfl, h⟩
theorem w_retX {s : Rs} (h1 : x Γ = .val (s, Γ1)) (h : P (.rt s) Γ1) : W (bSeq (bRetX x) r) Γ P := w_seq ⟨(.rt s, Γ1), by unfold bRetX; rw [h1]; rfl, h⟩
theorem w_retO {c : Cl} (h1 : Γ[m]? = some (.own c)) (h : P (.rt (.c c)) (Γ.set m .un)) : W (bSeq (bRetO m) r) Γ P := w_seq ⟨(.rt (.c c), Γ.set m .un), by unfold bRetO; rw [h1], h⟩
theorem w_if {c2 : DS} (h1 : t Γ = .val (z, Γ1)) (hT : z = true → W (bSeq b r) Γ1 P) (hF : z = false → W (bSeq c2 r) Γ1 P) : W (bSeq (bIf t b c2) r) Γ P := by
  have e : bSeq (bIf t b c2) r Γ = if z then bSeq b r Γ1 else bSeq c2 r Γ1 := by
    unfold bSeq bIf
    rw [h1, bind_val]
    cases z <;> rfl
  unfold W
  rw [e]
  cases z with
  | true => exact hT rfl
  | false => exact hF rfl
theorem w_seqA (h : W (bSeq b (bSeq r r2)) Γ P) : W (bSeq (bSeq b r) r2) Γ P := by
  have e : bSeq (bSeq b r) r2 Γ = bSeq b (bSeq r r2) Γ := by
    unfold bSeq
    rw [R.bind_assoc]
    congr 1
    funext z
    obtain ⟨w, Γ1⟩ := z
    cases w <;> rfl
  unfold W
  rw [e]
  exact h
theorem w_seqN (h : W r Γ P) : W (bSeq bNil r) Γ P := h
theorem w_frz {c : Cl} (h1 : Γ[m]? = some (.own c)) (h2 : frzC c = some d) (h : W r (Γ.set m (.dat true d)) P) : W (bFrz m r) Γ P := by
  unfold W bFrz
  simp only [h1, h2]
  exact h
theorem w_frzN {fr : Bool} (h1 : Γ[m]? = some (.dat fr d)) (h : W r Γ P) : W (bFrz m r) Γ P := by
  unfold W bFrz
  simp only [h1]
  exact h
theorem w_inc {i j : Int} {fr2 : Bool} (h0 : Γ[m]? = some (.dat fr (.int i))) (h1 : f Γ = .val (.d fr2 (.int j), Γ1)) (h : W r (Γ1.set m (.dat true (.int (i + j)))) P) : W (bSeq (bInc m f) r) Γ P := w_one ⟨_, by unfold bInc; rw [h0]; simp only [intS]; rw [ofO_some, bind_val, h1]; rfl, h⟩
theorem w_for {is : List Nat} {gg : DG} {it : DI} {y : List PyData × Bool} (Inv : Nat → List Sl → Prop) (h1 : it Γ = .val (y, Γ1)) (h0 : Inv 0 (wipeG Γ1 is))
    (hb : ∀ i d Γ, y.1[i]? = some d → Inv i Γ → ∃ Γ1, gg y.2 d Γ = some Γ1 ∧ W b Γ1 fun w Γ2 => match w with
      | .nx => Inv (i + 1) (wipeG Γ2 is)
      | .ct => Inv (i + 1) (wipeG Γ2 is)
      | .bk => W r (wipeG Γ2 is) P
      | .rt s => P (.rt s) Γ2) (hd : ∀ Γ, Inv y.1.length Γ → W r Γ P) : W (bSeq (bFor is gg it b) r) Γ P := by
  refine w_seq ?_
  unfold W bFor
  rw [h1, bind_val]
  exact ok_loopU (Post := fun z => match z.1 with
    | .nx => W r z.2 P
    | w => P w z.2) Inv y.1 h0 (fun i d Γ hd hi => by
      obtain ⟨Γ1, e1, o⟩ := hb i d Γ hd hi
      exact ⟨Γ1, e1, o.mono fun z hz => by
        obtain ⟨w, Γ2⟩ := z
        cases w <;> exact hz⟩) hd
end
theorem ok_run {n np : Nat} {b : DS} {as : List Ar} {Q : Rs × List Sl → Prop} (hl : as.length = np) (h : W b (initS n as) fun w Γ => ∃ r Z, fwR w = some r ∧ cellsAt as Γ = some Z ∧ Q (r, Z)) : Ok (runB n np b as) Q := by
  unfold runB
  have : (as.length == np) = true := by rw [hl]; exact beq_self_eq_true _
  rw [this, req_true, bind_val]
  obtain ⟨z, e, r, Z, h1, h2, h3⟩ := h
  rw [e]
  show Ok ((R.ofO (fwR z.1)).bind _) Q
  rw [h1, ofO_some, bind_val, h2]
  exact ok_val h3
local macro_rules
  | `(tactic| bv_omega) => `(tactic| with_reducible first
  | exact e_C | exact a_nil | exact k_sub | exact k_and | exact k_or | exact k_eqI | exact k_neI | exact k_I
  | apply e_I | apply e_add | apply e_neg | apply e_cmp | apply t_tst | apply t_not | apply e_not
  | apply k_mul | apply k_div | apply k_mod | apply k_pow | apply k_shl | apply k_shr
  | apply a_cons | apply n_lst | apply e_tup | apply e_ofN | apply c_l | apply x_c | apply e_B | apply n_B | apply e_isi)
local macro_rules
  | `(tactic| symm_saturate) => `(tactic| repeat' first | bv_omega | exact e_var rfl | exact e_varO rfl | exact e_varI rfl | rfl | assumption)
end PD
section
open PySem L2 PD
local macro_rules
  | `(tactic| bv_omega) => `(tactic| with_reducible first
  | exact e_C | exact a_nil | exact k_sub | exact k_and | exact k_or | exact k_eqI | exact k_neI | exact k_I
  | apply e_I | apply e_add | apply e_neg | apply e_cmp | apply t_tst | apply t_not | apply e_not
  | apply k_mul | apply k_div | apply k_mod | apply k_pow | apply k_shl | apply k_shr
  | apply a_cons | apply n_lst | apply e_tup | apply e_ofN | apply c_l | apply x_c | apply e_B | apply n_B | apply e_isi)
local macro_rules
  | `(tactic| symm_saturate) => `(tactic| repeat' first | bv_omega | exact e_var rfl | exact e_varO rfl | exact e_varI rfl | rfl | assumption)
set_option linter.all false
set_option maxRecDepth 100000
set_option autoImplicit false
namespace PD
open PySem L2
section
variable {Γ Γ1 Γ2 : List Sl} {fe : DF} {r : DS} {m : Nat} {io fr : Bool} {f : Fd} {n : Int} {P : Fw → List Sl → Prop}
end
theorem mod_64 {a M : Int} (h : 0 < M) (h2 : M < 2 ^ 64) : (a % M).natAbs < 2 ^ 64 := by
  have h3 := Int.emod_nonneg a (by omega : M ≠ 0)
  have h4 := Int.emod_lt_of_pos a h
  omega
theorem mulR {i j : Int} (h : j.natAbs < 2 ^ 64) : cMulX i j = true := by unfold cMulX; rw [decide_eq_true h]; simp
theorem mulL {i j : Int} (h : i.natAbs < 2 ^ 64) : cMulX i j = true := by unfold cMulX; rw [decide_eq_true h]; simp
theorem modP {i j : Int} (h : 0 < j) : cMod i j = true := decide_eq_true h
theorem log2_lt {n : Nat} (h : n < 2 ^ 64) : n.log2 < 9000 := by
  by_cases h0 : n = 0
  · subst h0; decide
  · have := (Nat.log2_lt h0 (k := 64)).mpr h
    omega
theorem divP {i j : Int} (h : 0 < j) (h2 : j < 2 ^ 64) : cDiv i j = true := by
  unfold cDiv
  rw [Bool.and_eq_true]
  exact ⟨decide_eq_true h, decide_eq_true (log2_lt (by omega))⟩
end PD
set_option linter.all false
set_option maxRecDepth 100000
set_option autoImplicit false
namespace PD
open PySem L2
abbrev dL (ns : List Int) : PyData := .list (ns.map PyData.int)
abbrev dT (ns : List Int) : PyData := .tuple (ns.map PyData.int)
abbrev dTT (rs : List (List Int)) : PyData := .tuple (rs.map fun r => dT r)
theorem flat_int (i : Int) : flat (.int i) = true := rfl
theorem gmap {α β : Type} {f : α → β} {xs : List α} {i : Nat} {d : β} (h : (xs.map f)[i]? = some d) : ∃ x, xs[i]? = some x ∧ d = f x := by
  rw [List.getElem?_map] at h
  cases hx : xs[i]? with
  | none => rw [hx] at h; cases h
  | some x => rw [hx] at h; cases h; exact ⟨x, rfl, rfl⟩
theorem mem_at {α : Type} {xs : List α} {i : Nat} {x : α} (h : xs[i]? = some x) : x ∈ xs := List.mem_of_getElem? h
theorem k_tup {Γ : List Sl} {a : AV} {ds : List PyData} {fr : Bool} (h : rdSeq Γ a = some (ds, fr)) : kTuple Γ [a] = .val (.d fr (.tuple ds)) := by unfold kTuple; simp only [h]; rfl
theorem k_list {Γ : List Sl} {a : AV} {ds : List PyData} {fr : Bool} (h : rdSeq Γ a = some (ds, fr)) (h2 : (fr || flat.flatA ds) = true) : kList Γ [a] = .val ds := by unfold kList; simp only [h]; exact gq_of _ h2
theorem ltS_of {α : Type} {xs : List α} (h : xs.length < 2 ^ 20) : ltS xs = true := by
  unfold ltS
  apply decide_eq_true
  have : (2 : Nat) ^ 20 ≤ sizeLine := by decide
  omega
theorem szB_of {α : Type} {xs : List α} (h : xs.length < 2 ^ 20) : szB xs = true := by
  unfold szB
  apply decide_eq_true
  have : (2 : Nat) ^ 20 ≤ sizeLine := by decide
  omega
def bIsIn : DS := (bSeq (bRet (dCmp kEq (dI kAnd (dI kShr (dVar 0) (dVar 1)) (dC (.int 1))) (dC (.int 1)))) bNil)
theorem isIn_u (m k : Int) (hk : 0 ≤ k) : runB 2 2 bIsIn [.d (.int m), .d (.int k)] = .val (.d (.bool (decide (Builtin.bitAnd (m / 2 ^ k.toNat) 1 = 1))), [.un, .un]) := by
  have hk : cShr m k = true := decide_eq_true hk
  refine ok_eq (ok_run rfl ?_)
  unfold bIsIn
  apply w_ret
  · symm_saturate
  exact ⟨_, _, rfl, rfl, rfl⟩
theorem enumD_at {ds : List PyData} {i : Nat} {d : PyData} (h : (enumD ds)[i]? = some d) : ∃ x, ds[i]? = some x ∧ d = .tuple [.int (i : Nat), x] := by
  unfold enumD at h
  rw [List.getElem?_mapIdx] at h
  cases hx : ds[i]? with
  | none => rw [hx] at h; cases h
  | some x => rw [hx] at h; cases h; exact ⟨x, rfl, rfl⟩
theorem enumD_len (ds : List PyData) : (enumD ds).length = ds.length := by unfold enumD; simp
theorem take_step {α : Type} {xs : List α} {i : Nat} {x : α} (h : xs[i]? = some x) : xs.take (i + 1) = xs.take i ++ [x] := by
  rw [List.take_add_one, h]; rfl
end PD
set_option linter.all false
set_option maxRecDepth 100000
set_option autoImplicit false
namespace PD
open PySem L2
theorem band_pos {x y : Int} (hx : 0 ≤ x) (hy : 0 ≤ y) : Builtin.bitAnd x y = ((x.toNat &&& y.toNat : Nat) : Int) := by
  unfold Builtin.bitAnd
  rw [decide_eq_true hx, decide_eq_true hy]
theorem bor_pos {x y : Int} (hx : 0 ≤ x) (hy : 0 ≤ y) : Builtin.bitOr x y = ((x.toNat ||| y.toNat : Nat) : Int) := bitOr_nn hx hy
structure Msk (k : Nat) (m : Int) (S : Nat → Prop) : Prop where
  nn : 0 ≤ m
  lt : m.toNat < 2 ^ k
  bit : ∀ j, m.toNat.testBit j = true ↔ S j
theorem Msk.iff {k : Nat} {m : Int} {S T : Nat → Prop} (h : Msk k m S) (e : ∀ j, S j ↔ T j) : Msk k m T := ⟨h.nn, h.lt, fun j => (h.bit j).trans (e j)⟩
theorem msk_one {k j : Nat} (h : j < k) : Msk k ((1 : Int) * 2 ^ j) (fun i => i = j) := by
  have e : ((1 : Int) * 2 ^ j) = ((2 ^ j : Nat) : Int) := by rw [Int.one_mul]; simp
  rw [e]
  refine ⟨Int.natCast_nonneg _, by rw [Int.toNat_natCast]; exact Nat.pow_lt_pow_right (by decide) h, fun i => ?_⟩
  rw [Int.toNat_natCast, Nat.testBit_two_pow]
  simp only [decide_eq_true_eq]
  exact eq_comm
theorem msk_or {k : Nat} {a b : Int} {S T : Nat → Prop} (ha : Msk k a S) (hb : Msk k b T) : Msk k (Builtin.bitOr a b) (fun j => S j ∨ T j) := by
  rw [bor_pos ha.nn hb.nn]
  refine ⟨Int.natCast_nonneg _, by rw [Int.toNat_natCast]; exact Nat.or_lt_two_pow ha.lt hb.lt, fun j => ?_⟩
  rw [Int.toNat_natCast, Nat.testBit_or, Bool.or_eq_true, ha.bit, hb.bit]
def Rise (xs : List Int) (S : Nat → Prop) : Prop := xs.Pairwise (· < ·) ∧ ∀ y : Int, y ∈ xs ↔ ∃ j : Nat, S j ∧ y = j
theorem Rise.ext {xs ys : List Int} {S : Nat → Prop} (h : Rise xs S) (h' : Rise ys S) : xs = ys := rise_ext h.1 h'.1 fun k => (h.2 k).trans (h'.2 k).symm
theorem Rise.nil {xs : List Int} {S : Nat → Prop} (h : Rise xs S) : xs = [] ↔ ∀ j, ¬ S j := by
  constructor
  · rintro rfl j hj
    exact absurd ((h.2 j).mpr ⟨j, hj, rfl⟩) (by simp)
  · intro z
    cases hx : xs with
    | nil => rfl
    | cons y ys =>
      obtain ⟨j, h1, _⟩ := (h.2 y).mp (by rw [hx]; simp)
      exact absurd h1 (z j)
def NetOk (net : List (List Int)) : Prop := ∀ (k : Nat) (row : List Int), net[k]? = some row → (∀ e ∈ row, 0 ≤ e ∧ e < (k : Int)) ∧ row.Pairwise (· < ·)
inductive Anc (net : List (List Int)) : Nat → Nat → Prop
  | rf (i : Nat) : Anc net i i
  | st {i k j : Nat} {row : List Int} : net[i]? = some row → ((k : Nat) : Int) ∈ row → Anc net k j → Anc net i j
theorem anc_iff {net : List (List Int)} {i j : Nat} {row : List Int} (h : net[i]? = some row) : Anc net i j ↔ j = i ∨ ∃ k : Nat, ((k : Nat) : Int) ∈ row ∧ Anc net k j := by
  constructor
  · intro a
    cases a with
    | rf => exact .inl rfl
    | st h1 h2 h3 => rw [h] at h1; cases h1; exact .inr ⟨_, h2, h3⟩
  · rintro (rfl | ⟨k, h2, h3⟩)
    · exact .rf _
    · exact .st h h2 h3
def RowOk (n : Nat) (row : List Bool) (S : Nat → Prop) : Prop := row.length = n ∧ ∀ (j : Nat) (b : Bool), row[j]? = some b → (b = true ↔ S j)
theorem RowOk.iff {n : Nat} {row : List Bool} {S T : Nat → Prop} (h : RowOk n row S) (e : ∀ j, S j ↔ T j) : RowOk n row T := ⟨h.1, fun j b z => (h.2 j b z).trans (e j)⟩
theorem RowOk.at {n : Nat} {row : List Bool} {S : Nat → Prop} (h : RowOk n row S) {j : Nat} (hj : j < n) : ∃ b, row[j]? = some b ∧ (b = true ↔ S j) := by
  have : j < row.length := by rw [h.1]; exact hj
  exact ⟨row[j], List.getElem?_eq_getElem this, h.2 j _ (List.getElem?_eq_getElem this)⟩
theorem cShl_of {j : Int} (h0 : 0 ≤ j) (h : j < 100000) : cShl 1 j = true := by
  unfold cShl
  rw [decide_eq_true h0, Bool.true_and]
  refine decide_eq_true ?_
  have : Builtin.Int.intBits 1 = 1 := by decide
  rw [this]
  omega
theorem isIn_msk {n : Nat} {b : Int} {S : Nat → Prop} (h : Msk n b S) {j : Int} (h0 : 0 ≤ j) : (Builtin.bitAnd (b / 2 ^ j.toNat) 1 = 1) ↔ S j.toNat := by
  rw [← h.bit j.toNat]
  obtain ⟨k, rfl⟩ : ∃ k : Nat, j = k := ⟨j.toNat, by omega⟩
  obtain ⟨m, rfl⟩ : ∃ m : Nat, b = m := ⟨b.toNat, by have := h.nn; omega⟩
  simp only [Int.toNat_natCast]
  have e : ((m : Int) / 2 ^ k) = ((m / 2 ^ k : Nat) : Int) := by simp
  rw [e, band_pos (Int.natCast_nonneg _) (by decide)]
  simp only [Int.toNat_natCast]
  rw [show ((1 : Int).toNat) = 1 from rfl, Nat.and_one_is_mod, Nat.testBit_eq_decide_div_mod_eq]
  simp
  omega
def bBitsOf : DS := (bSeq (bSetX 1 (xC (nL (dLst dA0)))) (bSeq (bFor [2, 3, 4, 5] (gT2 (gN 2) (gN 3)) (iEnum (dVar 0)) (bSeq (bSet 4 (dI kShl (dC (.int 1)) (dVar 2))) (bSeq (bFor [5] (gN 5) (iSeq (dVar 3)) (bSeq (bSet 4 (dI kOr (dVar 4) (dIxB (dVar 1) (dVar 5)))) bNil)) (bSeq (bExpr (dLm 1 qAppend (dAc (dFrz (dVar 4)) dA0))) bNil)))) (bSeq (bRetO 1) bNil)))
def BitsOk (net : List (List Int)) (bs : List Int) : Prop := bs.length = net.length ∧ ∀ (i : Nat) (b : Int), bs[i]? = some b → Msk net.length b (Anc net i)
theorem bitsOf_u (net : List (List Int)) (hN : NetOk net) (hn : net.length ≤ 1000) : ∃ bs, BitsOk net bs ∧ runB 6 1 bBitsOf [.d (dTT net)] = .val (.c (.lst (bs.map PyData.int)), [.un]) := by
  have key : Ok (runB 6 1 bBitsOf [.d (dTT net)]) fun z => ∃ bs, BitsOk net bs ∧ z = (.c (.lst (bs.map PyData.int)), [.un]) := by
    refine ok_run rfl ?_
    unfold bBitsOf
    apply w_setX
    · exact x_c (c_l (n_lst a_nil rfl rfl))
    refine w_for (y := (enumD (net.map fun r => dT r), false)) (Γ1 := [.dat false (dTT net), .own (.lst []), .un, .un, .un, .un]) (fun i Γ => ∃ bs : List Int, Γ = [.dat false (dTT net), .own (.lst (bs.map PyData.int)), .un, .un, .un, .un] ∧ bs.length = i ∧ ∀ (i : Nat) (b : Int), bs[i]? = some b → Msk net.length b (Anc net i)) ?_ ⟨[], rfl, rfl, fun i b z => by simp at z⟩ ?_ ?_
    · exact i_enumT (e_var rfl)
    · rintro i d Γ hd ⟨bs, rfl, hbl, hbs⟩
      obtain ⟨x, hx, rfl⟩ := enumD_at hd
      obtain ⟨row, hr, rfl⟩ := gmap hx
      obtain ⟨r1, r2⟩ := hN i row hr
      have hi : i < net.length := (List.getElem?_eq_some_iff.mp hr).1
      refine ⟨_, rfl, ?_⟩
      apply w_set
      · apply e_I
        · exact e_C
        · exact e_var rfl
        · exact k_shl (cShl_of (by omega) (by omega))
      refine w_for (y := (row.map PyData.int, false)) (Γ1 := [.dat false (dTT net), .own (.lst (bs.map PyData.int)), .dat false (.int (i : Nat)), .dat false (dT row), .dat true (.int (1 * 2 ^ ((i : Nat) : Int).toNat)), .un]) (fun k Γ => ∃ t : Int, Γ = [.dat false (dTT net), .own (.lst (bs.map PyData.int)), .dat false (.int (i : Nat)), .dat false (dT row), .dat true (.int t), .un] ∧ Msk net.length t (fun j => j = i ∨ ∃ m : Nat, (m : Int) ∈ row.take k ∧ Anc net m j)) ?_ ⟨_, rfl, ?_⟩ ?_ ?_
      · exact i_seqT (e_var rfl)
      · rw [Int.toNat_natCast]
        exact (msk_one hi).iff fun j => by simp
      · rintro k d Γ hd ⟨t, rfl, ht⟩
        obtain ⟨y, hy, rfl⟩ := gmap hd
        obtain ⟨y0, y1⟩ := r1 y (mem_at hy)
        obtain ⟨b, hb⟩ : ∃ b, bs[y.toNat]? = some b := ⟨_, List.getElem?_eq_getElem (by omega)⟩
        refine ⟨_, rfl, ?_⟩
        apply w_set
        · apply e_I
          · exact e_var rfl
          · apply e_ixS
            · exact e_varO rfl
            · exact e_var rfl
            · rfl
            · have e : y = ((y.toNat : Nat) : Int) := by omega
              rw [e]
              exact atI_nat (by rw [List.getElem?_map, hb]; rfl)
          · exact k_or
        refine w_nil ⟨_, rfl, (msk_or ht (hbs _ _ hb)).iff fun j => ?_⟩
        rw [take_step hy]
        constructor
        · rintro ((z | ⟨k, k1, k2⟩) | z)
          · exact .inl z
          · exact .inr ⟨k, by simp [k1], k2⟩
          · exact .inr ⟨y.toNat, by simp; right; omega, z⟩
        · rintro (z | ⟨k, k1, k2⟩)
          · exact .inl (.inl z)
          · rcases List.mem_append.mp k1 with q | q
            · exact .inl (.inr ⟨k, q, k2⟩)
            · simp at q
              refine .inr ?_
              have : k = y.toNat := by omega
              rw [← this]; exact k2
      · rintro Γ ⟨t, rfl, ht⟩
        have ht : Msk net.length t (Anc net i) := ht.iff fun j => by
          show (j = i ∨ ∃ m : Nat, (m : Int) ∈ row.take (row.map PyData.int).length ∧ Anc net m j) ↔ _
          rw [List.length_map, List.take_length]
          exact (anc_iff hr).symm
        apply w_expr
        · apply e_app
          · rfl
          · exact e_var rfl
          · rfl
          · exact ltS_of (by rw [List.length_map]; omega)
        refine w_nil ⟨bs ++ [t], ?_, by simp [hbl], fun k c z => ?_⟩
        · rw [List.map_append]; rfl
        · by_cases hk : k < bs.length
          · rw [List.getElem?_append_left hk] at z
            exact hbs k c z
          · have hk2 : k = bs.length := by
              have := (List.getElem?_eq_some_iff.mp z).1
              simp at this
              omega
            subst hk2
            simp at z
            subst z
            rw [hbl]
            exact ht
    · rintro Γ ⟨bs, rfl, hbl, hbs⟩
      apply w_retO
      · rfl
      refine ⟨_, _, rfl, rfl, bs, ⟨?_, hbs⟩, rfl⟩
      rw [hbl]
      show (enumD (net.map fun r => dT r)).length = _
      rw [enumD_len, List.length_map]
  obtain ⟨z, e, bs, h, rfl⟩ := key
  exact ⟨bs, h, e⟩
end PD
set_option linter.all false
set_option maxRecDepth 100000
set_option autoImplicit false
namespace PD
open PySem L2
theorem n_comp {α : Type} {enc : α → PyData} (xs : List α) (p : α → Bool) (v : α → PyData) {vs : List Nat} {g : DG} {it : DI} {t : DT} {e : DF} {Γ Γ1 Γ0 : List Sl} {fr : Bool} (h1 : it Γ = .val ((xs.map enc, fr), Γ1)) (hs : xs.length < 2 ^ 20) (h0 : wipeG Γ1 vs = Γ0)
    (hb : ∀ x ∈ xs, ∃ Γ2, g fr (enc x) Γ0 = some Γ2 ∧ wipeG Γ2 vs = Γ0 ∧ t Γ2 = .val (p x, Γ2) ∧ (p x = true → e Γ2 = .val (.d true (v x), Γ2))) : nComp vs g it t e Γ = .val ((xs.filter p).map v, Γ0) := by
  unfold nComp
  rw [h1, bind_val]
  have : szB (xs.map enc) = true := szB_of (by rw [List.length_map]; exact hs)
  show (R.req (szB (xs.map enc))).bind _ = _
  rw [this, req_true, bind_val]
  refine ok_eq (ok_compU (fun i out Γ => Γ = Γ0 ∧ out = ((xs.take i).filter p).map v) (xs.map enc) ⟨h0, by simp⟩ (fun i d out Γ hd hI => ?_) fun out Γ hI => ?_)
  · obtain ⟨rfl, rfl⟩ := hI
    obtain ⟨x, hx, rfl⟩ := gmap hd
    obtain ⟨Γ2, q1, q2, q3, q4⟩ := hb x (mem_at hx)
    refine ⟨Γ2, q1, ok_of q3 ?_⟩
    show if p x = true then _ else _
    by_cases hp : p x = true
    · rw [if_pos hp]
      refine ok_of (q4 hp) ⟨v x, rfl, q2, ?_⟩
      rw [take_step hx, List.filter_append, List.map_append]
      simp [hp]
    · rw [if_neg hp]
      refine ⟨q2, ?_⟩
      rw [take_step hx, List.filter_append, List.map_append]
      simp [hp]
  · obtain ⟨rfl, rfl⟩ := hI
    show (_, _) = (_, _)
    rw [List.length_map, List.take_length]
def inb (b one : Int) : Bool := decide (Builtin.bitAnd (b / 2 ^ one.toNat) 1 = 1)
def uIsIn : List Ar → R (Rs × List Sl) := runB 2 2 bIsIn
def optI : Option Int → PyData
  | none => .none
  | some i => .int i
def BestAt (L : Nat → Int) (barred : List Int) (n : Nat) (best : Option Int) (most : Int) : Prop := match best with
  | none => most = 0 ∧ ∀ k : Nat, k < n → ((k : Nat) : Int) ∉ barred → L k ≤ 0
  | some m => ∃ j : Nat, m = j ∧ j < n ∧ ((j : Nat) : Int) ∉ barred ∧ most = L j ∧ 0 < L j ∧ (∀ k : Nat, k < n → ((k : Nat) : Int) ∉ barred → L k ≤ L j) ∧ ∀ k : Nat, k < j → ((k : Nat) : Int) ∉ barred → L k < L j
theorem BestAt.nn {L : Nat → Int} {barred : List Int} {n : Nat} {best : Option Int} {most : Int} (h : BestAt L barred n best most) : 0 ≤ most := by
  cases best with
  | none => have := h.1; omega
  | some m => obtain ⟨j, _, _, _, h1, h2, _⟩ := h; omega
theorem BestAt.more {L : Nat → Int} {barred : List Int} {n : Nat} {best : Option Int} {most : Int} (h : BestAt L barred n best most) (hb : ((n : Nat) : Int) ∉ barred) (hs : most < L n) : BestAt L barred (n + 1) (some (n : Int)) (L n) := by
  have nn := h.nn
  have old : ∀ k : Nat, k < n → ((k : Nat) : Int) ∉ barred → L k ≤ most := by
    cases best with
    | none => obtain ⟨h1, h2⟩ := h; intro k hk hb; have := h2 k hk hb; omega
    | some m => obtain ⟨j, e1, e2, e3, e4, e5, e6, e7⟩ := h; intro k hk hb; rw [e4]; exact e6 k hk hb
  refine ⟨n, rfl, by omega, hb, rfl, by omega, fun k hk hb => ?_, fun k hk hb => ?_⟩
  · by_cases e : k = n
    · subst e; omega
    · have := old k (by omega) hb; omega
  · have := old k hk hb; omega
theorem rng_at {j : Int} {i : Nat} {x : Int} (h : (rng 0 j)[i]? = some x) : x = (i : Nat) ∧ (i : Int) < j := by
  unfold rng at h
  obtain ⟨k, hk, rfl⟩ := gmap h
  rw [List.getElem?_range (by
    have := (List.getElem?_eq_some_iff.mp hk).1
    simpa using this)] at hk
  cases hk
  have := (List.getElem?_eq_some_iff.mp h).1
  simp at this
  omega
theorem rng_len (i j : Int) : (rng i j).length = (j - i).toNat := by unfold rng; simp
theorem cRng_of {i j : Int} (h1 : -(2 ^ 62) ≤ i) (h2 : i < 2 ^ 62) (h3 : -(2 ^ 62) ≤ j) (h4 : j < 2 ^ 62) : cRng i j = true := decide_eq_true ⟨h1, h2, h3, h4⟩
end PD
set_option linter.all false
set_option maxRecDepth 100000
set_option autoImplicit false
namespace PD
open PySem L2
theorem e_frzT {Γ Γ1 : List Sl} {f : DF} {fr : Bool} {d : PyData} (h1 : f Γ = .val (.d fr d, Γ1)) (h2 : flat d = true) : dFrz f Γ = .val (.d true d, Γ1) := by
  have := e_frzD h1
  rw [h2, Bool.or_true] at this
  exact this
theorem x_callE {Γ Γ1 Γ2 : List Sl} {k : DA} {as : List AV} {ds : List PyData} {m : List Ar → R (Rs × List Sl)} {dds : List PyData} {r : Rs} {Z : List Sl} {p q : Nat} {ic : Bool × Cl} {cl : Cl} (h1 : k Γ = .val (as, Γ1)) (h2 : pickC p as = some q) (h3 : cellAt Γ1 q = some ic) (h4 : rdDs Γ1 (some q) (as.eraseIdx p) = some ds) (h5 : ic.2.fl = true) (h6 : m (insC p ic.2 (ds ++ dds)) = .val (r, Z)) (h7 : ioAt p Z = some cl) (h8 : Γ1.set q (mkS ic.1 cl) = Γ2) :
    xCallC m p dds k Γ = .val (r, Γ2) := by rw [x_callC h1 h2 h3 h4 h5 h6 h7, h8]
local macro_rules
  | `(tactic| apply_mod_cast $h) => `(tactic| (apply e_xd; apply x_callE; (· symm_saturate); (· rfl); (· rfl); (· rfl); (· rfl); (· exact $h); (· rfl); (· rfl)))
end PD
section
open PySem L2 PD
local macro_rules
  | `(tactic| apply_mod_cast $h) => `(tactic| (apply e_xd; apply x_callE; (· symm_saturate); (· rfl); (· rfl); (· rfl); (· rfl); (· exact $h); (· rfl); (· rfl)))
set_option linter.all false
set_option maxRecDepth 100000
set_option autoImplicit false
namespace PD
open PySem L2
end PD
set_option linter.all false
set_option maxRecDepth 100000
set_option autoImplicit false
namespace PD
open PySem L2
theorem w_put {Γ Γ1 Γ2 : List Sl} {fe fi : DF} {r : DS} {m : Nat} {v kk : PyData} {fr : Bool} {c0 c : Bool × Cl} {c' : Cl} {P : Fw → List Sl → Prop} (h1 : dFrz fe Γ = .val (.d true v, Γ1)) (h2 : cellC Γ1 m = some c0) (h3 : fi Γ1 = .val (.d fr kk, Γ2)) (h4 : cellC Γ2 m = some c) (h5 : putC c.2 kk v = some c') (h : W r (Γ2.set m (mkS c.1 c')) P) : W (bSeq (bPut m fe fi) r) Γ P := w_one ⟨_, by
  unfold bPut
  rw [h1, bind_val, h2, ofO_some, bind_val, h3, bind_val, h4, ofO_some, bind_val]
  simp only [h5]
  rfl, h⟩
theorem ixN_nat {n j : Nat} (h : j < n) : ixN n (j : Int) = some j := by
  unfold ixN
  rw [if_pos (by omega), if_pos (by omega)]
  simp
theorem at_nat {α : Type} {xs : List α} {f : α → PyData} {j : Nat} {x : α} (h : xs[j]? = some x) : atI (xs.map f) (j : Int) = some (f x) := atI_nat (by rw [List.getElem?_map, h]; rfl)
end PD
set_option linter.all false
set_option maxRecDepth 100000
set_option autoImplicit false
namespace PD
open PySem L2
theorem filt_sum (p : Int → Bool) : ∀ ms : List Int, (ms.filter p).length + (ms.filter fun x => !p x).length = ms.length
  | [] => rfl
  | x :: ms => by
    have := filt_sum p ms
    cases h : p x <;> simp [h] <;> omega
end PD
set_option linter.all false
set_option maxRecDepth 100000
set_option autoImplicit false
namespace PD
open PySem L2
end PD
set_option linter.all false
set_option autoImplicit false
namespace PD
open PySem L2
def uBitsOf : List Ar → R (Rs × List Sl) := runB 6 1 bBitsOf
end PD
set_option linter.all false
set_option maxRecDepth 100000
set_option autoImplicit false
namespace PD
open PySem L2
section
variable {Γ Γ1 Γ2 Γ3 : List Sl} {f g h : DF} {k : DA} {n : DN} {c : DC} {x : DX} {t t2 : DT} {fr fr2 z z2 : Bool} {d : PyData} {i j : Int} {ds es : List PyData} {a b : AV} {as : List AV} {P : Fw → List Sl → Prop} {r : DS} {m : Nat}
theorem e_x {s : Rs} (h1 : x Γ = .val (s, Γ1)) (h2 : rsF s = some d) : eX x Γ = .val (.d true d, Γ1) := by
  cases s with
  | d y => cases h2; exact e_xd h1
  | c y =>
    have h2 : frzC y = some d := h2
    unfold eX; rw [h1, bind_val]
    show ((R.ofO (frzC y)).bind fun e => R.val (AV.d true e, Γ1)) = _
    rw [h2]; rfl
theorem w_ifN {b c2 : DS} (h1 : t Γ = .val (z, Γ1)) (hz : z = false) (h : W (bSeq c2 r) Γ1 P) : W (bSeq (bIf t b c2) r) Γ P := w_if h1 (fun e => by rw [hz] at e; cases e) fun _ => h
theorem w_ifY {b c2 : DS} (h1 : t Γ = .val (z, Γ1)) (hz : z = true) (h : W (bSeq b r) Γ1 P) : W (bSeq (bIf t b c2) r) Γ P := w_if h1 (fun _ => h) (fun e => by rw [hz] at e; cases e)
theorem w_ifB {b c2 : DS} (h1 : t Γ = .val (z, Γ1)) (hT : z = true → W (bSeq b r) Γ1 P) (hF : z = false → W (bSeq c2 r) Γ1 P) : W (bSeq (bIf t b c2) r) Γ P := w_if h1 hT hF
theorem w_ifJ {b c2 : DS} {S : Type} (Rel : S → Prop) (sh : S → List Sl) (h1 : t Γ = .val (z, Γ1)) (hT : z = true → W b Γ1 fun w Γ2 => match w with
      | .nx => ∃ s, Γ2 = sh s ∧ Rel s
      | w => P w Γ2) (hF : z = false → W c2 Γ1 fun w Γ2 => match w with
      | .nx => ∃ s, Γ2 = sh s ∧ Rel s
      | w => P w Γ2) (h : ∀ s, Rel s → W r (sh s) P) : W (bSeq (bIf t b c2) r) Γ P := by
  refine w_if h1 (fun e => w_seq ((hT e).mono fun z hz => ?_)) (fun e => w_seq ((hF e).mono fun z hz => ?_))
  · obtain ⟨w, Γ2⟩ := z
    cases w with
    | nx => obtain ⟨s, h2, h3⟩ := hz; have h2 : Γ2 = sh s := h2; subst h2; exact h s h3
    | bk => exact hz
    | ct => exact hz
    | rt q => exact hz
  · obtain ⟨w, Γ2⟩ := z
    cases w with
    | nx => obtain ⟨s, h2, h3⟩ := hz; have h2 : Γ2 = sh s := h2; subst h2; exact h s h3
    | bk => exact hz
    | ct => exact hz
    | rt q => exact hz
theorem w_forL {α : Type} {enc : α → PyData} {is : List Nat} {gg : DG} {it : DI} {b : DS} (xs : List α) {S : Type} (Rel : Nat → S → Prop) (sh : S → List Sl) (s0 : S) (h1 : it Γ = .val ((xs.map enc, fr), Γ1)) (h0 : wipeG Γ1 is = sh s0) (hr : Rel 0 s0)
    (hb : ∀ (i : Nat) (x : α) (s : S), xs[i]? = some x → Rel i s → ∃ Γ1, gg fr (enc x) (sh s) = some Γ1 ∧ W b Γ1 fun w Γ2 => match w with
      | .nx => ∃ s', wipeG Γ2 is = sh s' ∧ Rel (i + 1) s'
      | .ct => ∃ s', wipeG Γ2 is = sh s' ∧ Rel (i + 1) s'
      | .bk => W r (wipeG Γ2 is) P
      | .rt q => P (.rt q) Γ2) (hd : ∀ s, Rel xs.length s → W r (sh s) P) : W (bSeq (bFor is gg it b) r) Γ P := by
  refine w_for (fun i Γ => ∃ s, Γ = sh s ∧ Rel i s) h1 ⟨s0, h0, hr⟩ ?_ ?_
  · rintro i d Γ hd ⟨s, rfl, hs⟩
    obtain ⟨x, hx, rfl⟩ := gmap hd
    exact hb i x s hx hs
  · rintro Γ ⟨s, rfl, hs⟩
    rw [List.length_map] at hs
    exact hd s hs
theorem w_forR {is : List Nat} {gg : DG} {it : DI} {b : DS} {N : Int} {S : Type} (Rel : Nat → S → Prop) (sh : S → List Sl) (s0 : S) (h1 : it Γ = .val (((rng 0 N).map PyData.int, fr), Γ1)) (h0 : wipeG Γ1 is = sh s0) (hr : Rel 0 s0)
    (hb : ∀ (i : Nat) (s : S), (i : Int) < N → Rel i s → ∃ Γ1, gg fr (.int (i : Nat)) (sh s) = some Γ1 ∧ W b Γ1 fun w Γ2 => match w with
      | .nx => ∃ s', wipeG Γ2 is = sh s' ∧ Rel (i + 1) s'
      | .ct => ∃ s', wipeG Γ2 is = sh s' ∧ Rel (i + 1) s'
      | .bk => W r (wipeG Γ2 is) P
      | .rt q => P (.rt q) Γ2) (hd : ∀ s, Rel N.toNat s → W r (sh s) P) : W (bSeq (bFor is gg it b) r) Γ P := by
  refine w_forL (rng 0 N) Rel sh s0 h1 h0 hr ?_ ?_
  · intro i x s hx hs
    obtain ⟨rfl, hi⟩ := rng_at hx
    exact hb i s hi hs
  · intro s hs
    rw [rng_len] at hs
    exact hd s (by simpa using hs)
theorem w_forE {α : Type} {enc : α → PyData} {is : List Nat} {gg : DG} {it : DI} {b : DS} (xs : List α) {S : Type} (Rel : Nat → S → Prop) (sh : S → List Sl) (s0 : S) (h1 : it Γ = .val ((enumD (xs.map enc), fr), Γ1)) (h0 : wipeG Γ1 is = sh s0) (hr : Rel 0 s0)
    (hb : ∀ (i : Nat) (x : α) (s : S), xs[i]? = some x → Rel i s → ∃ Γ1, gg fr (.tuple [.int (i : Nat), enc x]) (sh s) = some Γ1 ∧ W b Γ1 fun w Γ2 => match w with
      | .nx => ∃ s', wipeG Γ2 is = sh s' ∧ Rel (i + 1) s'
      | .ct => ∃ s', wipeG Γ2 is = sh s' ∧ Rel (i + 1) s'
      | .bk => W r (wipeG Γ2 is) P
      | .rt q => P (.rt q) Γ2) (hd : ∀ s, Rel xs.length s → W r (sh s) P) : W (bSeq (bFor is gg it b) r) Γ P := by
  refine w_for (fun i Γ => ∃ s, Γ = sh s ∧ Rel i s) h1 ⟨s0, h0, hr⟩ ?_ ?_
  · rintro i d Γ hd ⟨s, rfl, hs⟩
    obtain ⟨y, hy, rfl⟩ := enumD_at hd
    obtain ⟨x, hx, rfl⟩ := gmap hy
    exact hb i x s hx hs
  · rintro Γ ⟨s, rfl, hs⟩
    rw [enumD_len, List.length_map] at hs
    exact hd s hs
theorem k_lenI {α : Type} {enc : α → PyData} {xs : List α} (h : rdD Γ a = some (.list (xs.map enc))) : kLen Γ [a] = .val (.d true (.int (xs.length : Nat))) := by rw [k_lenL h, List.length_map]
theorem k_lenJ {α : Type} {enc : α → PyData} {xs : List α} (h : rdD Γ a = some (.tuple (xs.map enc))) : kLen Γ [a] = .val (.d true (.int (xs.length : Nat))) := by rw [k_lenT h, List.length_map]
theorem k_mx2 : kMax2 Γ [.d fr (.int i), .d fr2 (.int j)] = .val (.d true (.int (max2 i j))) := rfl
theorem k_mn2 : kMin2 Γ [.d fr (.int i), .d fr2 (.int j)] = .val (.d true (.int (min2 i j))) := rfl
end
end PD
set_option linter.all false
set_option maxRecDepth 100000
set_option autoImplicit false
namespace PD
open PySem L2
theorem filt_yes {α : Type} (xs : List α) : xs.filter (fun _ => true) = xs := List.filter_eq_self.mpr fun _ _ => rfl
theorem n_map {α : Type} {enc : α → PyData} (xs : List α) (v : α → PyData) {vs : List Nat} {g : DG} {it : DI} {e : DF} {Γ Γ1 Γ0 : List Sl} {fr : Bool} (h1 : it Γ = .val ((xs.map enc, fr), Γ1)) (hs : xs.length < 2 ^ 20) (h0 : wipeG Γ1 vs = Γ0)
    (hb : ∀ x ∈ xs, ∃ Γ2, g fr (enc x) Γ0 = some Γ2 ∧ wipeG Γ2 vs = Γ0 ∧ e Γ2 = .val (.d true (v x), Γ2)) : nComp vs g it tYes e Γ = .val (xs.map v, Γ0) := by
  have := n_comp xs (fun _ => true) v h1 hs h0 (t := tYes) (e := e) fun x hx => by
    obtain ⟨Γ2, q1, q2, q3⟩ := hb x hx
    exact ⟨Γ2, q1, q2, rfl, fun _ => q3⟩
  rw [filt_yes] at this
  exact this
theorem e_ap {Γ Γ1 : List Sl} {f : DF} {d : PyData} {ds es : List PyData} {m : Nat} {io : Bool} (h0 : cellL Γ m = some (io, es)) (h1 : dFrz f Γ = .val (.d true d, Γ1)) (h2 : cellL Γ1 m = some (io, ds)) (h3 : ltS ds = true) : dLm m qAppend (dAc (dFrz f) dA0) Γ = .val (.d true .none, Γ1.set m (mkS io (.lst (ds ++ [d])))) := by
  unfold dLm
  rw [h0, ofO_some, bind_val, a_cons h1 a_nil, bind_val, h2, ofO_some, bind_val]
  show ((qAppend ds [.d true d]).bind _) = _
  unfold qAppend
  simp only [h3]
  rfl
theorem ltS_map {α β : Type} {f : α → β} {xs : List α} (h : xs.length < 2 ^ 20) : ltS (xs.map f) = true := ltS_of (by rw [List.length_map]; exact h)
section
variable {Γ : List Sl} {a b : AV} {α : Type} [DecidableEq α] {enc : α → PyData} {k : Nat} {x y : α}
theorem k_eqT (E : EqT enc k) (hk : k ≤ 64) (h1 : rdD Γ a = some (enc x)) (h2 : rdD Γ b = some (enc y)) : kEq Γ a b = .val (decide (x = y)) := k_eq h1 h2 (E.sh hk x) (E.sh hk y) (E.eq x y)
theorem k_neT (E : EqT enc k) (hk : k ≤ 64) (h1 : rdD Γ a = some (enc x)) (h2 : rdD Γ b = some (enc y)) : kNe Γ a b = .val (!decide (x = y)) := k_ne h1 h2 (E.sh hk x) (E.sh hk y) (E.eq x y)
end
abbrev dKV (kvs : List (Int × PyData)) : List (PyData × PyData) := kvs.map fun z => (PyData.int z.1, z.2)
def lookI (kvs : List (Int × PyData)) (k : Int) : Option PyData := (kvs.find? fun z => decide (z.1 = k)).map (·.2)
def putI (kvs : List (Int × PyData)) (k : Int) (v : PyData) : List (Int × PyData) := if kvs.any (fun z => decide (z.1 = k)) then kvs.map (fun z => if z.1 = k then (z.1, v) else z) else kvs ++ [(k, v)]
theorem getD_kv (kvs : List (Int × PyData)) (k : Int) : getD (dKV kvs) (.int k) = lookI kvs k := by
  unfold getD lookI
  rw [List.find?_map, Option.map_map]
  rfl
theorem putD_kv (kvs : List (Int × PyData)) (k : Int) (v : PyData) : putD (dKV kvs) (.int k) v = dKV (putI kvs k v) := by
  unfold putD putI dKV
  have e : (kvs.map fun z => (PyData.int z.1, z.2)).any (fun z => eqK z.1 (.int k)) = kvs.any (fun z => decide (z.1 = k)) := by rw [List.any_map]; rfl
  rw [e]
  split
  · rw [List.map_map, List.map_map]
    apply List.map_congr_left
    intro z _
    by_cases h : z.1 = k <;> simp [eqK, h]
  · simp
theorem lookI_nil (k : Int) : lookI [] k = none := rfl
theorem lookI_none {kvs : List (Int × PyData)} {k : Int} : lookI kvs k = none ↔ ∀ v, (k, v) ∉ kvs := by
  unfold lookI
  rw [Option.map_eq_none_iff, List.find?_eq_none]
  constructor
  · intro h v hv
    exact h _ hv (by simp)
  · intro h z hz e
    have e : z.1 = k := by simpa using e
    exact h z.2 (by rw [← e]; exact hz)
theorem lookI_cons (z : Int × PyData) (kvs : List (Int × PyData)) (k : Int) : lookI (z :: kvs) k = if z.1 = k then some z.2 else lookI kvs k := by
  unfold lookI
  rw [List.find?_cons]
  by_cases h : z.1 = k <;> simp [h]
theorem lookI_snoc (kvs : List (Int × PyData)) (a : Int) (v : PyData) (k : Int) : lookI (kvs ++ [(a, v)]) k = if (lookI kvs k).isSome then lookI kvs k else if a = k then some v else none := by
  induction kvs with
  | nil => simp [lookI_cons, lookI_nil]
  | cons z r ih =>
    rw [List.cons_append, lookI_cons, lookI_cons, ih]
    by_cases h : z.1 = k <;> simp [h]
theorem any_lookI (kvs : List (Int × PyData)) (k : Int) : kvs.any (fun z => decide (z.1 = k)) = (lookI kvs k).isSome := by
  induction kvs with
  | nil => rfl
  | cons z r ih => rw [List.any_cons, lookI_cons, ih]; by_cases h : z.1 = k <;> simp [h]
theorem lookI_put (kvs : List (Int × PyData)) (a : Int) (v : PyData) (k : Int) : lookI (putI kvs a v) k = if k = a then some v else lookI kvs k := by
  unfold putI
  rw [any_lookI]
  split
  · rename_i hs
    induction kvs with
    | nil => simp [lookI_nil] at hs
    | cons z r ih =>
      rw [List.map_cons, lookI_cons, lookI_cons]
      rw [lookI_cons] at hs
      by_cases h : z.1 = a
      · subst h
        simp only [if_true]
        by_cases h2 : z.1 = k
        · subst h2; simp
        · rw [if_neg h2, if_neg h2, if_neg (Ne.symm h2)]
          by_cases h3 : (lookI r z.1).isSome
          · rw [ih h3, if_neg (Ne.symm h2)]
          · have hn : lookI r z.1 = none := by simpa using h3
            have : r.map (fun y => if y.1 = z.1 then (y.1, v) else y) = r := by
              have e2 : r.map (fun y => if y.1 = z.1 then (y.1, v) else y) = r.map id := List.map_congr_left fun y hy => by
                rw [if_neg]
                · rfl
                · intro q
                  exact lookI_none.mp hn y.2 (by rw [← q]; exact hy)
              rw [e2, List.map_id]
            rw [this]
      · rw [if_neg h] at hs
        simp only [if_neg h]
        rw [ih hs]
        by_cases h2 : z.1 = k
        · subst h2; simp [h]
        · simp [h2]
  · rename_i hs
    rw [lookI_snoc]
    by_cases h : k = a
    · subst h; simp at hs; simp [hs]
    · rw [if_neg h, if_neg (Ne.symm h)]
      split
      · rfl
      · rename_i h2; simp at h2; rw [h2]
theorem putI_new {kvs : List (Int × PyData)} {a : Int} (v : PyData) (h : lookI kvs a = none) : putI kvs a v = kvs ++ [(a, v)] := by
  unfold putI
  rw [any_lookI, h]
  simp
section
variable {Γ : List Sl} {fr fr2 io : Bool} {k : Int} {kvs : List (Int × PyData)} {m : Nat} {v : PyData}
theorem k_ninKS (h : dicA Γ (.s m) = some (true, .k, dKV kvs)) : kNinB Γ (.d fr (.int k)) (.s m) = .val (!(lookI kvs k).isSome) := by
  unfold kNinB kInB
  simp only [h, rdD, getD_kv]
  rfl
theorem k_inKS (h : dicA Γ (.s m) = some (true, .k, dKV kvs)) : kInB Γ (.d fr (.int k)) (.s m) = .val (lookI kvs k).isSome := by
  unfold kInB
  simp only [h, rdD, getD_kv]
  rfl
theorem kindKV (h : kvs ≠ []) : kindD (dKV kvs) = some .k := by
  cases kvs with
  | nil => exact absurd rfl h
  | cons z r => rfl
theorem k_inKD (h : kvs ≠ []) : kInB Γ (.d fr (.int k)) (.d fr2 (.dict (dKV kvs))) = .val (lookI kvs k).isSome := by
  unfold kInB dicA
  simp only [kindKV h, Option.map_some, rdD, getD_kv]
  rfl
theorem putC_kv (h : kvs.length < 2 ^ 20) : putC (.dic .k (dKV kvs)) (.int k) v = some (.dic .k (dKV (putI kvs k v))) := by
  unfold putC
  have : decide ((dKV kvs).length < sizeLine) = true := by
    apply decide_eq_true
    have : (2 : Nat) ^ 20 ≤ sizeLine := by decide
    rw [List.length_map]; omega
  simp only [this, putD_kv]
  rfl
theorem putC_lst {ds : List PyData} {j : Nat} (h : j < ds.length) : putC (.lst ds) (.int (j : Nat)) v = some (.lst (ds.set j v)) := by
  unfold putC
  simp only [ixN_nat h]
  rfl
end
theorem e_pop {Γ : List Sl} {m : Nat} {io : Bool} {ds : List PyData} {y : PyData} (h : cellL Γ m = some (io, ds ++ [y])) : dLm m qPop dA0 Γ = .val (.d true y, Γ.set m (mkS io (.lst ds))) := by
  unfold dLm
  rw [h, ofO_some, bind_val, a_nil, bind_val, h, ofO_some, bind_val]
  unfold qPop
  simp only [List.getLast?_concat, List.dropLast_concat]
  rfl
theorem e_ins {Γ Γ1 : List Sl} {m : Nat} {io : Bool} {es ds : List PyData} {fi fx : DF} {n : Int} {y : PyData} {fr : Bool} (h0 : cellL Γ m = some (io, es)) (h1 : dAc fi (dAc (dFrz fx) dA0) Γ = .val ([.d fr (.int n), .d true y], Γ1)) (h2 : cellL Γ1 m = some (io, ds)) (h3 : cIns ds n = true) : dLm m qInsert (dAc fi (dAc (dFrz fx) dA0)) Γ = .val (.d true .none, Γ1.set m (mkS io (.lst (insI ds n y)))) := by
  unfold dLm
  rw [h0, ofO_some, bind_val, h1, bind_val, h2, ofO_some, bind_val]
  unfold qInsert
  simp only [h3]
  rfl
theorem shS {a : Str} (h : PyData.strOk a = true) : SeqAt.shaped (.str a) = true := by
  unfold SeqAt.shaped
  rw [PyData.canLay0, h]
  rfl
theorem k_neS {Γ : List Sl} {f1 f2 : Bool} {a b : Str} (h1 : PyData.strOk a = true := by decide +kernel) (h2 : PyData.strOk b = true := by decide +kernel) : kNe Γ (.d f1 (.str a)) (.d f2 (.str b)) = .val (!decide (a = b)) := k_ne rfl rfl (shS h1) (shS h2) (by show (a == b) = _; rfl)
theorem k_eqS {Γ : List Sl} {f1 f2 : Bool} {a b : Str} (h1 : PyData.strOk a = true := by decide +kernel) (h2 : PyData.strOk b = true := by decide +kernel) : kEq Γ (.d f1 (.str a)) (.d f2 (.str b)) = .val (decide (a = b)) := k_eq rfl rfl (shS h1) (shS h2) (by show (a == b) = _; rfl)
theorem x_callM {Γ Γ1 : List Sl} {k : DA} {as : List AV} {ars : List Ar} {ms : List Bool} {m : List Ar → R (Rs × List Sl)} {dds : List PyData} {r : Rs} {Z : List Sl} (h1 : k Γ = .val (as, Γ1)) (h2 : rdAs Γ1 none ms as = some ars) (h3 : m (ars ++ dds.map Ar.d) = .val (r, Z)) : xCallM m ms dds k Γ = .val (r, Γ1) := by
  unfold xCallM; rw [h1, bind_val, h2, ofO_some, bind_val, h3]; rfl
end PD
set_option linter.all false
set_option maxRecDepth 100000
set_option autoImplicit false
namespace PD
open PySem L2
end PD
set_option linter.all false
set_option maxRecDepth 100000
set_option autoImplicit false
namespace PD
open PySem L2
end PD
set_option linter.all false
set_option maxRecDepth 100000
set_option autoImplicit false
namespace PD
open PySem L2
end PD
set_option linter.all false
set_option maxRecDepth 100000
set_option autoImplicit false
namespace PD
open PySem L2
def b_qcell_at : DS := (bSeq (bIf (dTst (dCmp (kI fun i j => decide (i < j)) (dVar 1) (dB kLen (dAc (dVar 0) dA0)))) (bSeq (bRet (dIxB (dVar 0) (dVar 1))) bNil) bNil) (bSeq (bRet (dC (.int 0))) bNil))
def u_qcell_at : List Ar → R (Rs × List Sl) := runB 2 2 b_qcell_at
def b_qfeed : DS := (bSeq (bRetC (nL (dLst (dAc (eX (xCall u_qcell_at [] (dAc (dVar 0) (dAc (dVar 1) dA0)))) (dAc (dC (.int 0)) (dAc (dFrz (dVar 1)) dA0)))))) bNil)
def u_qfeed : List Ar → R (Rs × List Sl) := runB 2 2 b_qfeed
def b_qtake : DS := (bSeq (bPut 0 (dAdd (dIxB (dVar 0) (dC (.int 1))) (dC (.int 1))) (dC (.int 1))) (bSeq (bIf (dTst (dCmp (kI fun i j => decide (j ≤ i)) (dIxB (dVar 0) (dC (.int 0))) (dI kPow (dC (.int 10)) (dC (.int 18))))) (bSeq (bSet 2 (dI kMod (dIxB (dVar 0) (dC (.int 0))) (dVar 1))) (bSeq (bPut 0 (dI kDiv (dIxB (dVar 0) (dC (.int 0))) (dVar 1)) (dC (.int 0))) (bSeq (bRet (dVar 2)) bNil))) bNil) (bSeq (bSet 3 (dAdd (dAdd (dAdd (dI kMod (dIxB (dVar 0) (dC (.int 0))) (dC (.int 2147483647))) (dI kMul (dC (.int 40692)) (dIxB (dVar 0) (dC (.int 1))))) (dI kMul (dC (.int 7919)) (dIxB (dVar 0) (dC (.int 2))))) (dC (.int 12345)))) (bSeq (bSet 3 (dI kMod (dI kMul (dVar 3) (dC (.int 48271))) (dC (.int 2147483629)))) (bSeq (bRet (dI kMod (dI kDiv (dI kMod (dI kMul (dVar 3) (dAdd (dVar 3) (dC (.int 69621)))) (dC (.int 2147483587))) (dC (.int 64))) (dVar 1))) bNil)))))
def u_qtake : List Ar → R (Rs × List Sl) := runB 4 2 b_qtake
def b_qnet_k12 : DS := (bSeq (bSet 2 (dAdd (dC (.int 1)) (eX (xCallC u_qtake 0 [] (dAc (dVar 0) (dAc (dVar 1) dA0)))))) (bSeq (bSet 3 (eX (xCallC u_qtake 0 [] (dAc (dVar 0) (dAc (dC (.int 8)) dA0))))) (bSeq (bSetX 4 (xC (nL (dLst dA0)))) (bSeq (bFor [5, 6, 7, 8, 9] (gN 5) (iRange1 (dVar 2)) (bSeq (bSetX 6 (xC (nL (dLst dA0)))) (bSeq (bFor [7, 8, 9] (gN 7) (iRange1 (dVar 5)) (bSeq (bSet 8 (dI kSub (dVar 5) (dVar 7))) (bSeq (bSet 9 (dFrz (dIxB (dOfN (dLst (dAc (dCmp kEq (dVar 8) (dC (.int 1))) (dAc (dCmp kEq (dVar 7) (dC (.int 0))) (dAc (dCmp kEq (dVar 8) (dC (.int 2))) (dAc (dCmp kEq (dVar 8) (dI kSub (dC (.int 2)) (dI kMod (dVar 5) (dC (.int 2))))) (dAc (dC (.bool false)) dA0))))))) (dB kMin2 (dAc (dVar 3) (dAc (dC (.int 4)) dA0)))))) (bSeq (bIf (dTst (dCmp (kI fun i j => decide (j < i)) (dVar 3) (dC (.int 4)))) (bSeq (bSet 9 (dCmp kEq (eX (xCallC u_qtake 0 [] (dAc (dVar 0) (dAc (dI kSub (dVar 3) (dC (.int 3))) dA0)))) (dC (.int 0)))) bNil) bNil) (bSeq (bIf (dTst (dVar 9)) (bSeq (bExpr (dLm 6 qAppend (dAc (dFrz (dVar 7)) dA0))) bNil) bNil) bNil))))) (bSeq (bExpr (dLm 4 qAppend (dAc (dFrz (dB kTuple (dAc (dVar 6) dA0))) dA0))) bNil)))) (bSeq (bRet (dB kTuple (dAc (dVar 4) dA0))) bNil)))))
def u_qnet_k12 : List Ar → R (Rs × List Sl) := runB 10 2 b_qnet_k12
end PD
set_option linter.all false
set_option maxRecDepth 100000
set_option autoImplicit false
namespace PD
open PySem L2
end PD
set_option linter.all false
set_option maxRecDepth 100000
set_option autoImplicit false
namespace PD
open PySem L2
end PD
set_option linter.all false
set_option maxRecDepth 100000
set_option autoImplicit false
namespace PD
open PySem L2
def b_p_speaks : DS := (bSeq (bSetG (gT2 (gN 3) (gN 4)) (dFrz (dVar 1))) (bSeq (bIf (dTst (dCmp kEq (dVar 4) (dC (.str "bad")))) (bSeq (bRet (dNot (eX (xCall uIsIn [] (dAc (dIxB (dVar 0) (dVar 3)) (dAc (dVar 2) dA0)))))) bNil) bNil) (bSeq (bRet (dAnd (dCmp kEq (dVar 4) (dC (.str "good"))) (eX (xCall uIsIn [] (dAc (dIxB (dVar 0) (dVar 3)) (dAc (dVar 2) dA0)))))) bNil)))
def u_p_speaks : List Ar → R (Rs × List Sl) := runB 5 3 b_p_speaks
end PD
set_option linter.all false
set_option maxRecDepth 100000
set_option autoImplicit false
namespace PD
open PySem L2
def b_qfrom : DS := (bSeq (bSetX 1 (xC (nL (dLst dA0)))) (bSeq (bFor [2, 3, 4, 5, 6] (gT2 (gN 2) (gN 3)) (iEnum (dVar 0)) (bSeq (bSetX 4 (xC (nDic1 2 (.bool true)))) (bSeq (bFor [5, 6] (gN 5) (iSeq (dVar 3)) (bSeq (bFor [6] (gN 6) (iKeyD (dIxB (dVar 1) (dVar 5))) (bSeq (bPut 4 (dC (.bool true)) (dVar 6)) bNil)) bNil)) (bSeq (bExpr (dLm 1 qAppend (dAc (dFrzK (dVar 4)) dA0))) bNil)))) (bSeq (bRetO 1) bNil)))
def u_qfrom : List Ar → R (Rs × List Sl) := runB 7 1 b_qfrom
def b_p_check_trials : DS := (bSeq (bFor [2, 3, 4] (gT2 (gN 2) (gT2 (gN 3) (gN 4))) (iEnum (dVar 1)) (bSeq (bIf (dTor (dTst (dCmp (kI fun i j => decide (i < j)) (dVar 3) (dC (.int 0)))) (dTor (dTst (dCmp (kI fun i j => decide (j ≤ i)) (dVar 3) (dB kLen (dAc (dVar 0) dA0)))) (dTst (dInG true [.str "good", .str "bad", .str "cannot"] (dVar 4))))) (bSeq (bRaise "NoTrial" ["place"] (dAc (dFrz (dVar 2)) dA0)) bNil) bNil) bNil)) bNil)
def u_p_check_trials : List Ar → R (Rs × List Sl) := runB 5 2 b_p_check_trials
end PD
set_option linter.all false
set_option maxRecDepth 100000
set_option autoImplicit false
namespace PD
open PySem L2
def b_qspeaks : DS := (bSeq (bSetG (gT2 (gN 3) (gN 4)) (dFrz (dVar 1))) (bSeq (bIf (dTst (dCmp kEq (dVar 4) (dC (.str "cannot")))) (bSeq (bRet (dC (.bool false))) bNil) bNil) (bSeq (bRet (dCmp kEq (dCmp kInB (dVar 2) (dIxB (dVar 0) (dVar 3))) (dCmp kEq (dVar 4) (dC (.str "good"))))) bNil)))
def u_qspeaks : List Ar → R (Rs × List Sl) := runB 5 3 b_qspeaks
def b_p_places_against : DS := (bSeq (bRetC (nL (nComp [3, 4] (gT2 (gN 3) (gN 4)) (iEnum (dVar 1)) (dTst (eX (xCall u_p_speaks [] (dAc (dVar 0) (dAc (dVar 4) (dAc (dVar 2) dA0)))))) (dFrz (dVar 3))))) bNil)
def u_p_places_against : List Ar → R (Rs × List Sl) := runB 5 3 b_p_places_against
def b_qwhole : DS := (bSeq (bRet (dAnd (dIsi [.int] (dVar 0)) (dNot (dIsi [.bool] (dVar 0))))) bNil)
def u_qwhole : List Ar → R (Rs × List Sl) := runB 1 1 b_qwhole
end PD
set_option Elab.async false
set_option linter.all false
set_option maxRecDepth 100000
set_option maxHeartbeats 0
set_option autoImplicit false
namespace PDW
open PySem PySem.Spec PyProof.Rows L2 PD
structure Env (K : PySem.W.Frag) (mg : Str → Option Value) : Prop where
  d_p_law : ∃ f fd, FunD K "law" "law" (defArgs (top 39)) (defBody (top 39)) (defScope (top 39)) [] [] f fd ∧ mg "law" = some (.ref f)
  d_qfeed : ∃ f fd, FunD K "_law_feed" "_law_feed" (defArgs (top 26)) (defBody (top 26)) (defScope (top 26)) [] [] f fd ∧ mg "_law_feed" = some (.ref f)
  d_qcell_at : ∃ f fd, FunD K "_law_cell_at" "_law_cell_at" (defArgs (top 25)) (defBody (top 25)) (defScope (top 25)) [] [] f fd ∧ mg "_law_cell_at" = some (.ref f)
  d_qnet : ∃ f fd, FunD K "_law_net" "_law_net" (defArgs (top 28)) (defBody (top 28)) (defScope (top 28)) [] [] f fd ∧ mg "_law_net" = some (.ref f)
  d_qtake : ∃ f fd, FunD K "_law_take" "_law_take" (defArgs (top 27)) (defBody (top 27)) (defScope (top 27)) [] [] f fd ∧ mg "_law_take" = some (.ref f)
  d_qfrom : ∃ f fd, FunD K "_law_from" "_law_from" (defArgs (top 29)) (defBody (top 29)) (defScope (top 29)) [] [] f fd ∧ mg "_law_from" = some (.ref f)
  d_qtrials : ∃ f fd, FunD K "_law_trials" "_law_trials" (defArgs (top 33)) (defBody (top 33)) (defScope (top 33)) [] [] f fd ∧ mg "_law_trials" = some (.ref f)
  d_qright : ∃ f fd, FunD K "_law_right" "_law_right" (defArgs (top 38)) (defBody (top 38)) (defScope (top 38)) [] [] f fd ∧ mg "_law_right" = some (.ref f)
  d_qspeaks : ∃ f fd, FunD K "_law_speaks" "_law_speaks" (defArgs (top 30)) (defBody (top 30)) (defScope (top 30)) [] [] f fd ∧ mg "_law_speaks" = some (.ref f)
  d_qtold : ∃ f fd, FunD K "_law_told" "_law_told" (defArgs (top 34)) (defBody (top 34)) (defScope (top 34)) [] [] f fd ∧ mg "_law_told" = some (.ref f)
  d_p_known : ∃ f fd, FunD K "known" "known" (defArgs (top 23)) (defBody (top 23)) (defScope (top 23)) [V.int 0] [] f fd ∧ mg "known" = some (.ref f)
  d_p_check_trials : ∃ f fd, FunD K "check_trials" "check_trials" (defArgs (top 19)) (defBody (top 19)) (defScope (top 19)) [] [] f fd ∧ mg "check_trials" = some (.ref f)
  d_p_bits_of : ∃ f fd, FunD K "bits_of" "bits_of" (defArgs (top 15)) (defBody (top 15)) (defScope (top 15)) [] [] f fd ∧ mg "bits_of" = some (.ref f)
  d_p_places_against : ∃ f fd, FunD K "places_against" "places_against" (defArgs (top 21)) (defBody (top 21)) (defScope (top 21)) [] [] f fd ∧ mg "places_against" = some (.ref f)
  d_p_speaks : ∃ f fd, FunD K "speaks" "speaks" (defArgs (top 20)) (defBody (top 20)) (defScope (top 20)) [] [] f fd ∧ mg "speaks" = some (.ref f)
  d_p_is_in : ∃ f fd, FunD K "is_in" "is_in" (defArgs (top 16)) (defBody (top 16)) (defScope (top 16)) [] [] f fd ∧ mg "is_in" = some (.ref f)
  d_qis_alone : ∃ f fd, FunD K "_law_is_alone" "_law_is_alone" (defArgs (top 32)) (defBody (top 32)) (defScope (top 32)) [] [] f fd ∧ mg "_law_is_alone" = some (.ref f)
  d_qis_rows : ∃ f fd, FunD K "_law_is_rows" "_law_is_rows" (defArgs (top 35)) (defBody (top 35)) (defScope (top 35)) [] [] f fd ∧ mg "_law_is_rows" = some (.ref f)
  d_qwhole : ∃ f fd, FunD K "_law_whole" "_law_whole" (defArgs (top 31)) (defBody (top 31)) (defScope (top 31)) [] [] f fd ∧ mg "_law_whole" = some (.ref f)
  d_qno_trial : ∃ f fd, FunD K "_law_no_trial" "_law_no_trial" (defArgs (top 36)) (defBody (top 36)) (defScope (top 36)) [] [] f fd ∧ mg "_law_no_trial" = some (.ref f)
  d_qput_in : ∃ f fd, FunD K "_law_put_in" "_law_put_in" (defArgs (top 37)) (defBody (top 37)) (defScope (top 37)) [] [] f fd ∧ mg "_law_put_in" = some (.ref f)
  b_range : mg "range" = none
  b_max : mg "max" = none
  b_min : mg "min" = none
  b_len : mg "len" = none
  b_tuple : mg "tuple" = none
  b_int : mg "int" = none
  b_enumerate : mg "enumerate" = none
  b_isinstance : mg "isinstance" = none
  b_ValueError : mg "ValueError" = none
  b_list : mg "list" = none
  b_bool : mg "bool" = none
  t_ANSWERS : GT K mg "ANSWERS" [.str "good", .str "bad", .str "cannot"] [.str "good", .str "bad", .str "cannot"]
  x_all : XAll K mg ["NoTrial", "NoTruth"] ["HuntError", "NoBook", "NoMake", "NoName", "NoNet", "NoOrder", "NoPlan", "NoRow", "NoText", "NoTrial", "NoTruth", "NothingTold", "TooGreat", "ValueError"] ["HuntError"] ["place", "rows"]
  hunt : HuntC K (He.ga K "HuntError") ∧ mg "HuntError" = some (.ref (He.ga K "HuntError"))
  i_NoTrial : ∃ fd, FunD K "__init__" "NoTrial.__init__" (defArgs (clsInit (top 5))) (defBody (clsInit (top 5))) (defScope (clsInit (top 5))) [] [] (He.fAd K ("NoTrial", some "__init__")) fd
  j_NoTrial : IniC K "NoTrial"
  i_NoTruth : ∃ fd, FunD K "__init__" "NoTruth.__init__" (defArgs (clsInit (top 6))) (defBody (clsInit (top 6))) (defScope (clsInit (top 6))) [] [] (He.fAd K ("NoTruth", some "__init__")) fd
  j_NoTruth : IniC K "NoTruth"
theorem sc_qcell_at : FnScope ["_law_script", "_law_k"] ["_law_script", "_law_k"] (defScope (top 25)) := ⟨rfl, rfl, rfl, by decide +kernel, rfl, by decide +kernel, by decide +kernel⟩
theorem fo_qcell_at {P : Program} {w : World} {K : PySem.W.Frag} {mg : Str → Option Value} {base : Heap} (E : Env K mg) {f : Addr} {fd : FuncData} (F : FunD K "_law_cell_at" "_law_cell_at" (defArgs (top 25)) (defBody (top 25)) (defScope (top 25)) [] [] f fd) : FnOk P w K mg base (L2N.CX P w) (0 + 1) f fd ["_law_script", "_law_k"] (spU K mg u_qcell_at) := by
  refine fn_u (N := ["_law_script", "_law_k"]) (ps := ["_law_script", "_law_k"]) (k := 0) F sc_qcell_at (b := b_qcell_at) (by decide) fun X W h => ?_
  have C := h.cf
  have hb_len : X.mg "len" = none := by rw [h.mg]; exact E.b_len
  have n0 : (["_law_script", "_law_k"] : List Str)[0]? = some ("_law_script" : Str) := rfl
  have v0 : visB (defScope (top 25)) "_law_script" = true := by decide +kernel
  have s0 : Sto X (defScope (top 25)) "_law_script" := sto_c h.fn (by decide +kernel)
  have n1 : (["_law_script", "_law_k"] : List Str)[1]? = some ("_law_k" : Str) := rfl
  have v1 : visB (defScope (top 25)) "_law_k" = true := by decide +kernel
  have s1 : Sto X (defScope (top 25)) "_law_k" := sto_c h.fn (by decide +kernel)
  unfold b_qcell_at
  exact (cs_cons (c1_if (ct_cmp (ce_lt (ce_var C.toCf0 1 n1 (by decide +kernel)) (ce_len C.toCf0 (by decide +kernel) hb_len (ca_cons (ce_var C.toCf0 0 n0 (by decide +kernel)) ca_nil)))) (cs_cons (c1_ret (ce_ixB C.toCf0 (ce_var C.toCf0 0 n0 (by decide +kernel)) (ce_var C.toCf0 1 n1 (by decide +kernel)))) cs_nil) cs_nil) (cs_cons (c1_ret ce_int) cs_nil))
theorem ok_qcell_at {P : Program} {w : World} {K : PySem.W.Frag} {mg : Str → Option Value} {base : Heap} (E : Env K mg) : Gv P w K mg base (0 + 1) "_law_cell_at" [] (spU K mg u_qcell_at) := by
  obtain ⟨f, fd, F, hmg⟩ := E.d_qcell_at
  exact Gv.of F hmg (fo_qcell_at E F) (F.bindsN fun _ _ _ _ _ _ us hl => match us, hl with | [_, _], _ => rfl) .nil
theorem sc_qfeed : FnScope ["_law_script", "_law_k"] ["_law_script", "_law_k"] (defScope (top 26)) := ⟨rfl, rfl, rfl, by decide +kernel, rfl, by decide +kernel, by decide +kernel⟩
theorem fo_qfeed {P : Program} {w : World} {K : PySem.W.Frag} {mg : Str → Option Value} {base : Heap} (E : Env K mg) {f : Addr} {fd : FuncData} (F : FunD K "_law_feed" "_law_feed" (defArgs (top 26)) (defBody (top 26)) (defScope (top 26)) [] [] f fd) : FnOk P w K mg base (L2N.CX P w) (1 + 1) f fd ["_law_script", "_law_k"] (spU K mg u_qfeed) := by
  refine fn_u (N := ["_law_script", "_law_k"]) (ps := ["_law_script", "_law_k"]) (k := 1) F sc_qfeed (b := b_qfeed) (by decide) fun X W h => ?_
  have C := h.cf
  have c_qcell_at := (ok_qcell_at (P := P) (w := w) (base := base) E).u h (by omega)
  have n0 : (["_law_script", "_law_k"] : List Str)[0]? = some ("_law_script" : Str) := rfl
  have v0 : visB (defScope (top 26)) "_law_script" = true := by decide +kernel
  have s0 : Sto X (defScope (top 26)) "_law_script" := sto_c h.fn (by decide +kernel)
  have n1 : (["_law_script", "_law_k"] : List Str)[1]? = some ("_law_k" : Str) := rfl
  have v1 : visB (defScope (top 26)) "_law_k" = true := by decide +kernel
  have s1 : Sto X (defScope (top 26)) "_law_k" := sto_c h.fn (by decide +kernel)
  unfold b_qfeed
  exact (cs_cons (c1_retC (cc_l (cn_lst (ca_cons (ce_x (cx_call C.toCf0 c_qcell_at (by decide +kernel) (fun _ _ => .nil) (ca_cons (ce_var C.toCf0 0 n0 (by decide +kernel)) (ca_cons (ce_var C.toCf0 1 n1 (by decide +kernel)) ca_nil)))) (ca_cons ce_int (ca_cons (ce_frz (ce_var C.toCf0 1 n1 (by decide +kernel))) ca_nil)))))) cs_nil)
theorem ok_qfeed {P : Program} {w : World} {K : PySem.W.Frag} {mg : Str → Option Value} {base : Heap} (E : Env K mg) : Gv P w K mg base (1 + 1) "_law_feed" [] (spU K mg u_qfeed) := by
  obtain ⟨f, fd, F, hmg⟩ := E.d_qfeed
  exact Gv.of F hmg (fo_qfeed E F) (F.bindsN fun _ _ _ _ _ _ us hl => match us, hl with | [_, _], _ => rfl) .nil
theorem sc_qtake : FnScope ["_law_feed_here", "_law_many", "_law_digit", "_law_number"] ["_law_feed_here", "_law_many"] (defScope (top 27)) := ⟨rfl, rfl, rfl, by decide +kernel, rfl, by decide +kernel, by decide +kernel⟩
theorem fo_qtake {P : Program} {w : World} {K : PySem.W.Frag} {mg : Str → Option Value} {base : Heap} (E : Env K mg) {f : Addr} {fd : FuncData} (F : FunD K "_law_take" "_law_take" (defArgs (top 27)) (defBody (top 27)) (defScope (top 27)) [] [] f fd) : FnOk P w K mg base (L2N.CX P w) (0 + 1) f fd ["_law_feed_here", "_law_many"] (spU K mg u_qtake) := by
  refine fn_u (N := ["_law_feed_here", "_law_many", "_law_digit", "_law_number"]) (ps := ["_law_feed_here", "_law_many"]) (k := 0) F sc_qtake (b := b_qtake) (by decide) fun X W h => ?_
  have C := h.cf
  have n0 : (["_law_feed_here", "_law_many", "_law_digit", "_law_number"] : List Str)[0]? = some ("_law_feed_here" : Str) := rfl
  have v0 : visB (defScope (top 27)) "_law_feed_here" = true := by decide +kernel
  have s0 : Sto X (defScope (top 27)) "_law_feed_here" := sto_c h.fn (by decide +kernel)
  have n1 : (["_law_feed_here", "_law_many", "_law_digit", "_law_number"] : List Str)[1]? = some ("_law_many" : Str) := rfl
  have v1 : visB (defScope (top 27)) "_law_many" = true := by decide +kernel
  have s1 : Sto X (defScope (top 27)) "_law_many" := sto_c h.fn (by decide +kernel)
  have n2 : (["_law_feed_here", "_law_many", "_law_digit", "_law_number"] : List Str)[2]? = some ("_law_digit" : Str) := rfl
  have v2 : visB (defScope (top 27)) "_law_digit" = true := by decide +kernel
  have s2 : Sto X (defScope (top 27)) "_law_digit" := sto_c h.fn (by decide +kernel)
  have n3 : (["_law_feed_here", "_law_many", "_law_digit", "_law_number"] : List Str)[3]? = some ("_law_number" : Str) := rfl
  have v3 : visB (defScope (top 27)) "_law_number" = true := by decide +kernel
  have s3 : Sto X (defScope (top 27)) "_law_number" := sto_c h.fn (by decide +kernel)
  unfold b_qtake
  exact (cs_cons (c1_put C.toCf0 0 n0 v0 (ce_add (ce_ixB C.toCf0 (ce_var C.toCf0 0 n0 (by decide +kernel)) ce_int) ce_int) ce_int) (cs_cons (c1_if (ct_cmp (ce_ge (ce_ixB C.toCf0 (ce_var C.toCf0 0 n0 (by decide +kernel)) ce_int) (ce_pow ce_int ce_int))) (cs_cons (c1_set C.toCf0 2 n2 s2 (ce_mod (ce_ixB C.toCf0 (ce_var C.toCf0 0 n0 (by decide +kernel)) ce_int) (ce_var C.toCf0 1 n1 (by decide +kernel)))) (cs_cons (c1_put C.toCf0 0 n0 v0 (ce_fdiv (ce_ixB C.toCf0 (ce_var C.toCf0 0 n0 (by decide +kernel)) ce_int) (ce_var C.toCf0 1 n1 (by decide +kernel))) ce_int) (cs_cons (c1_ret (ce_var C.toCf0 2 n2 (by decide +kernel))) cs_nil))) cs_nil) (cs_cons (c1_set C.toCf0 3 n3 s3 (ce_add (ce_add (ce_add (ce_mod (ce_ixB C.toCf0 (ce_var C.toCf0 0 n0 (by decide +kernel)) ce_int) ce_int) (ce_mul ce_int (ce_ixB C.toCf0 (ce_var C.toCf0 0 n0 (by decide +kernel)) ce_int))) (ce_mul ce_int (ce_ixB C.toCf0 (ce_var C.toCf0 0 n0 (by decide +kernel)) ce_int))) ce_int)) (cs_cons (c1_set C.toCf0 3 n3 s3 (ce_mod (ce_mul (ce_var C.toCf0 3 n3 (by decide +kernel)) ce_int) ce_int)) (cs_cons (c1_ret (ce_mod (ce_fdiv (ce_mod (ce_mul (ce_var C.toCf0 3 n3 (by decide +kernel)) (ce_add (ce_var C.toCf0 3 n3 (by decide +kernel)) ce_int)) ce_int) ce_int) (ce_var C.toCf0 1 n1 (by decide +kernel)))) cs_nil)))))
theorem ok_qtake {P : Program} {w : World} {K : PySem.W.Frag} {mg : Str → Option Value} {base : Heap} (E : Env K mg) : Gv P w K mg base (0 + 1) "_law_take" [] (spU K mg u_qtake) := by
  obtain ⟨f, fd, F, hmg⟩ := E.d_qtake
  exact Gv.of F hmg (fo_qtake E F) (F.bindsN fun _ _ _ _ _ _ us hl => match us, hl with | [_, _], _ => rfl) .nil
theorem sc_qnet : FnScope ["_law_feed_here", "_law_most", "_law_many", "_law_way", "_law_net_here", "_law_make", "_law_elders", "_law_elder", "_law_near", "_law_hangs"] ["_law_feed_here", "_law_most"] (defScope (top 28)) := ⟨rfl, rfl, rfl, by decide +kernel, rfl, by decide +kernel, by decide +kernel⟩
theorem fo_qnet {P : Program} {w : World} {K : PySem.W.Frag} {mg : Str → Option Value} {base : Heap} (E : Env K mg) {f : Addr} {fd : FuncData} (F : FunD K "_law_net" "_law_net" (defArgs (top 28)) (defBody (top 28)) (defScope (top 28)) [] [] f fd) : FnOk P w K mg base (L2N.CX P w) (1 + 1) f fd ["_law_feed_here", "_law_most"] (spU K mg u_qnet_k12) := by
  refine fn_u (N := ["_law_feed_here", "_law_most", "_law_many", "_law_way", "_law_net_here", "_law_make", "_law_elders", "_law_elder", "_law_near", "_law_hangs"]) (ps := ["_law_feed_here", "_law_most"]) (k := 1) F sc_qnet (b := b_qnet_k12) (by decide) fun X W h => ?_
  have C := h.cf
  have hb_range : X.mg "range" = none := by rw [h.mg]; exact E.b_range
  have hb_min : X.mg "min" = none := by rw [h.mg]; exact E.b_min
  have hb_tuple : X.mg "tuple" = none := by rw [h.mg]; exact E.b_tuple
  have c_qtake := (ok_qtake (P := P) (w := w) (base := base) E).u h (by omega)
  have n0 : (["_law_feed_here", "_law_most", "_law_many", "_law_way", "_law_net_here", "_law_make", "_law_elders", "_law_elder", "_law_near", "_law_hangs"] : List Str)[0]? = some ("_law_feed_here" : Str) := rfl
  have v0 : visB (defScope (top 28)) "_law_feed_here" = true := by decide +kernel
  have s0 : Sto X (defScope (top 28)) "_law_feed_here" := sto_c h.fn (by decide +kernel)
  have n1 : (["_law_feed_here", "_law_most", "_law_many", "_law_way", "_law_net_here", "_law_make", "_law_elders", "_law_elder", "_law_near", "_law_hangs"] : List Str)[1]? = some ("_law_most" : Str) := rfl
  have v1 : visB (defScope (top 28)) "_law_most" = true := by decide +kernel
  have s1 : Sto X (defScope (top 28)) "_law_most" := sto_c h.fn (by decide +kernel)
  have n2 : (["_law_feed_here", "_law_most", "_law_many", "_law_way", "_law_net_here", "_law_make", "_law_elders", "_law_elder", "_law_near", "_law_hangs"] : List Str)[2]? = some ("_law_many" : Str) := rfl
  have v2 : visB (defScope (top 28)) "_law_many" = true := by decide +kernel
  have s2 : Sto X (defScope (top 28)) "_law_many" := sto_c h.fn (by decide +kernel)
  have n3 : (["_law_feed_here", "_law_most", "_law_many", "_law_way", "_law_net_here", "_law_make", "_law_elders", "_law_elder", "_law_near", "_law_hangs"] : List Str)[3]? = some ("_law_way" : Str) := rfl
  have v3 : visB (defScope (top 28)) "_law_way" = true := by decide +kernel
  have s3 : Sto X (defScope (top 28)) "_law_way" := sto_c h.fn (by decide +kernel)
  have n4 : (["_law_feed_here", "_law_most", "_law_many", "_law_way", "_law_net_here", "_law_make", "_law_elders", "_law_elder", "_law_near", "_law_hangs"] : List Str)[4]? = some ("_law_net_here" : Str) := rfl
  have v4 : visB (defScope (top 28)) "_law_net_here" = true := by decide +kernel
  have s4 : Sto X (defScope (top 28)) "_law_net_here" := sto_c h.fn (by decide +kernel)
  have n5 : (["_law_feed_here", "_law_most", "_law_many", "_law_way", "_law_net_here", "_law_make", "_law_elders", "_law_elder", "_law_near", "_law_hangs"] : List Str)[5]? = some ("_law_make" : Str) := rfl
  have v5 : visB (defScope (top 28)) "_law_make" = true := by decide +kernel
  have s5 : Sto X (defScope (top 28)) "_law_make" := sto_c h.fn (by decide +kernel)
  have n6 : (["_law_feed_here", "_law_most", "_law_many", "_law_way", "_law_net_here", "_law_make", "_law_elders", "_law_elder", "_law_near", "_law_hangs"] : List Str)[6]? = some ("_law_elders" : Str) := rfl
  have v6 : visB (defScope (top 28)) "_law_elders" = true := by decide +kernel
  have s6 : Sto X (defScope (top 28)) "_law_elders" := sto_c h.fn (by decide +kernel)
  have n7 : (["_law_feed_here", "_law_most", "_law_many", "_law_way", "_law_net_here", "_law_make", "_law_elders", "_law_elder", "_law_near", "_law_hangs"] : List Str)[7]? = some ("_law_elder" : Str) := rfl
  have v7 : visB (defScope (top 28)) "_law_elder" = true := by decide +kernel
  have s7 : Sto X (defScope (top 28)) "_law_elder" := sto_c h.fn (by decide +kernel)
  have n8 : (["_law_feed_here", "_law_most", "_law_many", "_law_way", "_law_net_here", "_law_make", "_law_elders", "_law_elder", "_law_near", "_law_hangs"] : List Str)[8]? = some ("_law_near" : Str) := rfl
  have v8 : visB (defScope (top 28)) "_law_near" = true := by decide +kernel
  have s8 : Sto X (defScope (top 28)) "_law_near" := sto_c h.fn (by decide +kernel)
  have n9 : (["_law_feed_here", "_law_most", "_law_many", "_law_way", "_law_net_here", "_law_make", "_law_elders", "_law_elder", "_law_near", "_law_hangs"] : List Str)[9]? = some ("_law_hangs" : Str) := rfl
  have v9 : visB (defScope (top 28)) "_law_hangs" = true := by decide +kernel
  have s9 : Sto X (defScope (top 28)) "_law_hangs" := sto_c h.fn (by decide +kernel)
  unfold b_qnet_k12
  exact (cs_cons (c1_set C.toCf0 2 n2 s2 (ce_add ce_int (ce_x (cx_callC C.toCf0 0 c_qtake (by decide +kernel) (fun _ _ => .nil) (ca_cons (ce_var C.toCf0 0 n0 (by decide +kernel)) (ca_cons (ce_var C.toCf0 1 n1 (by decide +kernel)) ca_nil)))))) (cs_cons (c1_set C.toCf0 3 n3 s3 (ce_x (cx_callC C.toCf0 0 c_qtake (by decide +kernel) (fun _ _ => .nil) (ca_cons (ce_var C.toCf0 0 n0 (by decide +kernel)) (ca_cons ce_int ca_nil))))) (cs_cons (c1_setX C.toCf0 4 n4 s4 (cx_c (cc_l (cn_lst ca_nil)))) (cs_cons (c1_for C [5, 6, 7, 8, 9] (ci_range1 C.toCf0 (by decide +kernel) hb_range (ce_var C.toCf0 2 n2 (by decide +kernel))) (cg_name C.toCf0 5 n5 s5) (cs_cons (c1_setX C.toCf0 6 n6 s6 (cx_c (cc_l (cn_lst ca_nil)))) (cs_cons (c1_for C [7, 8, 9] (ci_range1 C.toCf0 (by decide +kernel) hb_range (ce_var C.toCf0 5 n5 (by decide +kernel))) (cg_name C.toCf0 7 n7 s7) (cs_cons (c1_set C.toCf0 8 n8 s8 (ce_sub (ce_var C.toCf0 5 n5 (by decide +kernel)) (ce_var C.toCf0 7 n7 (by decide +kernel)))) (cs_cons (c1_set C.toCf0 9 n9 s9 (ce_frz (ce_ixB C.toCf0 (ce_ofN (cn_lst (ca_cons (ce_eq C.toCf0 (ce_var C.toCf0 8 n8 (by decide +kernel)) ce_int) (ca_cons (ce_eq C.toCf0 (ce_var C.toCf0 7 n7 (by decide +kernel)) ce_int) (ca_cons (ce_eq C.toCf0 (ce_var C.toCf0 8 n8 (by decide +kernel)) ce_int) (ca_cons (ce_eq C.toCf0 (ce_var C.toCf0 8 n8 (by decide +kernel)) (ce_sub ce_int (ce_mod (ce_var C.toCf0 5 n5 (by decide +kernel)) ce_int))) (ca_cons ce_bool ca_nil))))))) (ce_min2 C (by decide +kernel) hb_min (ca_cons (ce_var C.toCf0 3 n3 (by decide +kernel)) (ca_cons ce_int ca_nil)))))) (cs_cons (c1_if (ct_cmp (ce_gt (ce_var C.toCf0 3 n3 (by decide +kernel)) ce_int)) (cs_cons (c1_set C.toCf0 9 n9 s9 (ce_eq C.toCf0 (ce_x (cx_callC C.toCf0 0 c_qtake (by decide +kernel) (fun _ _ => .nil) (ca_cons (ce_var C.toCf0 0 n0 (by decide +kernel)) (ca_cons (ce_sub (ce_var C.toCf0 3 n3 (by decide +kernel)) ce_int) ca_nil)))) ce_int)) cs_nil) cs_nil) (cs_cons (c1_if (ct_of (ce_var C.toCf0 9 n9 (by decide +kernel))) (cs_cons (c1_expr (ce_append C.toCf0 6 n6 (by decide +kernel) (ce_var C.toCf0 7 n7 (by decide +kernel)))) cs_nil) cs_nil) cs_nil))))) (cs_cons (c1_expr (ce_append C.toCf0 4 n4 (by decide +kernel) (ce_tuple C.toCf0 (by decide +kernel) hb_tuple (ca_cons (ce_var C.toCf0 6 n6 (by decide +kernel)) ca_nil)))) cs_nil)))) (cs_cons (c1_ret (ce_tuple C.toCf0 (by decide +kernel) hb_tuple (ca_cons (ce_var C.toCf0 4 n4 (by decide +kernel)) ca_nil))) cs_nil)))))
theorem ok_qnet {P : Program} {w : World} {K : PySem.W.Frag} {mg : Str → Option Value} {base : Heap} (E : Env K mg) : Gv P w K mg base (1 + 1) "_law_net" [] (spU K mg u_qnet_k12) := by
  obtain ⟨f, fd, F, hmg⟩ := E.d_qnet
  exact Gv.of F hmg (fo_qnet E F) (F.bindsN fun _ _ _ _ _ _ us hl => match us, hl with | [_, _], _ => rfl) .nil
theorem sc_qfrom : FnScope ["_law_net_here", "_law_found", "_law_make", "_law_elders", "_law_own", "_law_elder", "_law_old"] ["_law_net_here"] (defScope (top 29)) := ⟨rfl, rfl, rfl, by decide +kernel, rfl, by decide +kernel, by decide +kernel⟩
theorem fo_qfrom {P : Program} {w : World} {K : PySem.W.Frag} {mg : Str → Option Value} {base : Heap} (E : Env K mg) {f : Addr} {fd : FuncData} (F : FunD K "_law_from" "_law_from" (defArgs (top 29)) (defBody (top 29)) (defScope (top 29)) [] [] f fd) : FnOk P w K mg base (L2N.CX P w) (0 + 1) f fd ["_law_net_here"] (spU K mg u_qfrom) := by
  refine fn_u (N := ["_law_net_here", "_law_found", "_law_make", "_law_elders", "_law_own", "_law_elder", "_law_old"]) (ps := ["_law_net_here"]) (k := 0) F sc_qfrom (b := b_qfrom) (by decide) fun X W h => ?_
  have C := h.cf
  have hb_enumerate : X.mg "enumerate" = none := by rw [h.mg]; exact E.b_enumerate
  have n0 : (["_law_net_here", "_law_found", "_law_make", "_law_elders", "_law_own", "_law_elder", "_law_old"] : List Str)[0]? = some ("_law_net_here" : Str) := rfl
  have v0 : visB (defScope (top 29)) "_law_net_here" = true := by decide +kernel
  have s0 : Sto X (defScope (top 29)) "_law_net_here" := sto_c h.fn (by decide +kernel)
  have n1 : (["_law_net_here", "_law_found", "_law_make", "_law_elders", "_law_own", "_law_elder", "_law_old"] : List Str)[1]? = some ("_law_found" : Str) := rfl
  have v1 : visB (defScope (top 29)) "_law_found" = true := by decide +kernel
  have s1 : Sto X (defScope (top 29)) "_law_found" := sto_c h.fn (by decide +kernel)
  have n2 : (["_law_net_here", "_law_found", "_law_make", "_law_elders", "_law_own", "_law_elder", "_law_old"] : List Str)[2]? = some ("_law_make" : Str) := rfl
  have v2 : visB (defScope (top 29)) "_law_make" = true := by decide +kernel
  have s2 : Sto X (defScope (top 29)) "_law_make" := sto_c h.fn (by decide +kernel)
  have n3 : (["_law_net_here", "_law_found", "_law_make", "_law_elders", "_law_own", "_law_elder", "_law_old"] : List Str)[3]? = some ("_law_elders" : Str) := rfl
  have v3 : visB (defScope (top 29)) "_law_elders" = true := by decide +kernel
  have s3 : Sto X (defScope (top 29)) "_law_elders" := sto_c h.fn (by decide +kernel)
  have n4 : (["_law_net_here", "_law_found", "_law_make", "_law_elders", "_law_own", "_law_elder", "_law_old"] : List Str)[4]? = some ("_law_own" : Str) := rfl
  have v4 : visB (defScope (top 29)) "_law_own" = true := by decide +kernel
  have s4 : Sto X (defScope (top 29)) "_law_own" := sto_c h.fn (by decide +kernel)
  have n5 : (["_law_net_here", "_law_found", "_law_make", "_law_elders", "_law_own", "_law_elder", "_law_old"] : List Str)[5]? = some ("_law_elder" : Str) := rfl
  have v5 : visB (defScope (top 29)) "_law_elder" = true := by decide +kernel
  have s5 : Sto X (defScope (top 29)) "_law_elder" := sto_c h.fn (by decide +kernel)
  have n6 : (["_law_net_here", "_law_found", "_law_make", "_law_elders", "_law_own", "_law_elder", "_law_old"] : List Str)[6]? = some ("_law_old" : Str) := rfl
  have v6 : visB (defScope (top 29)) "_law_old" = true := by decide +kernel
  have s6 : Sto X (defScope (top 29)) "_law_old" := sto_c h.fn (by decide +kernel)
  unfold b_qfrom
  exact (cs_cons (c1_setX C.toCf0 1 n1 s1 (cx_c (cc_l (cn_lst ca_nil)))) (cs_cons (c1_for C [2, 3, 4, 5, 6] (ci_enum C.toCf0 (by decide +kernel) hb_enumerate (ce_var C.toCf0 0 n0 (by decide +kernel))) (cg_tup2 C (cg_name C.toCf0 2 n2 s2) (cg_name C.toCf0 3 n3 s3)) (cs_cons (c1_setX C.toCf0 4 n4 s4 (cx_c (cc_dic1 C.toCf0 2 n2 (by decide +kernel) pe_bl (fun _ _ => (.bl _))))) (cs_cons (c1_for C [5, 6] (ci_seq (ce_var C.toCf0 3 n3 (by decide +kernel))) (cg_name C.toCf0 5 n5 s5) (cs_cons (c1_for C [6] (ci_keyD (ce_ixB C.toCf0 (ce_var C.toCf0 1 n1 (by decide +kernel)) (ce_var C.toCf0 5 n5 (by decide +kernel)))) (cg_name C.toCf0 6 n6 s6) (cs_cons (c1_put C.toCf0 4 n4 v4 ce_bool (ce_var C.toCf0 6 n6 (by decide +kernel))) cs_nil)) cs_nil)) (cs_cons (c1_expr (ce_appendK C.toCf0 1 n1 (by decide +kernel) (ce_var C.toCf0 4 n4 (by decide +kernel)))) cs_nil)))) (cs_cons (c1_retO C.toCf0 1 n1 (by decide +kernel)) cs_nil)))
theorem ok_qfrom {P : Program} {w : World} {K : PySem.W.Frag} {mg : Str → Option Value} {base : Heap} (E : Env K mg) : Gv P w K mg base (0 + 1) "_law_from" [] (spU K mg u_qfrom) := by
  obtain ⟨f, fd, F, hmg⟩ := E.d_qfrom
  exact Gv.of F hmg (fo_qfrom E F) (F.bindsN fun _ _ _ _ _ _ us hl => match us, hl with | [_], _ => rfl) .nil
def b_qtrials_k15 : DS := (bSeq (bSet 4 (eX (xCallC u_qtake 0 [] (dAc (dVar 0) (dAc (dB kLen (dAc (dVar 1) dA0)) dA0))))) (bSeq (bSet 5 (dFrz (dVar 3))) (bSeq (bSetX 6 (xC (nL (dLst dA0)))) (bSeq (bFor [7, 8, 9, 10] (gN 7) (iRange1 (eX (xCallC u_qtake 0 [] (dAc (dVar 0) (dAc (dIxB (dOfN (dLst (dAc (dC (.int 5)) (dAc (dC (.int 9)) (dAc (dC (.int 13)) (dAc (dC (.int 13)) (dAc (dC (.int 25)) (dAc (dC (.int 61)) dA0)))))))) (eX (xCallC u_qtake 0 [] (dAc (dVar 0) (dAc (dC (.int 6)) dA0))))) dA0))))) (bSeq (bSet 8 (eX (xCallC u_qtake 0 [] (dAc (dVar 0) (dAc (dB kLen (dAc (dVar 1) dA0)) dA0))))) (bSeq (bSet 9 (dFrz (dIxB (dOfN (dLst (dAc (dC (.str "good")) (dAc (dC (.str "bad")) dA0)))) (dB kInt (dAc (dCmp kInB (dVar 4) (dIxB (dVar 2) (dVar 8))) dA0))))) (bSeq (bSet 10 (eX (xCallC u_qtake 0 [] (dAc (dVar 0) (dAc (dC (.int 8)) dA0))))) (bSeq (bIf (dTst (dCmp kEq (dVar 10) (dC (.int 0)))) (bSeq (bSet 9 (dC (.str "cannot"))) bNil) (bSeq (bIf (dTand (dTst (dCmp (kI fun i j => decide (i < j)) (dVar 10) (dC (.int 4)))) (dTst (dCmp (kI fun i j => decide (j < i)) (dVar 5) (dC (.int 0))))) (bSeq (bSet 9 (dFrz (dIxB (dOfN (dLst (dAc (dC (.str "good")) (dAc (dC (.str "bad")) dA0)))) (dB kInt (dAc (dCmp kEq (dVar 9) (dC (.str "good"))) dA0))))) (bSeq (bSet 5 (dI kSub (dVar 5) (dC (.int 1)))) bNil)) bNil) bNil)) (bSeq (bExpr (dLm 6 qAppend (dAc (dFrz (dTup (dAc (dFrz (dVar 8)) (dAc (dFrz (dVar 9)) dA0)))) dA0))) bNil)))))) (bSeq (bRetT (dAc (dFrz (dVar 4)) (dAc (dVar 6) dA0))) bNil)))))
def u_qtrials_k15 : List Ar → R (Rs × List Sl) := runB 11 4 b_qtrials_k15
theorem sc_qtrials : FnScope ["_law_feed_here", "_law_net_here", "_law_olds", "_law_lies", "_law_first", "_law_left", "_law_trials_here", "_law_k", "_law_make", "_law_answer", "_law_way"] ["_law_feed_here", "_law_net_here", "_law_olds", "_law_lies"] (defScope (top 33)) := ⟨rfl, rfl, rfl, by decide +kernel, rfl, by decide +kernel, by decide +kernel⟩
theorem fo_qtrials {P : Program} {w : World} {K : PySem.W.Frag} {mg : Str → Option Value} {base : Heap} (E : Env K mg) {f : Addr} {fd : FuncData} (F : FunD K "_law_trials" "_law_trials" (defArgs (top 33)) (defBody (top 33)) (defScope (top 33)) [] [] f fd) : FnOk P w K mg base (L2N.CX P w) (1 + 1) f fd ["_law_feed_here", "_law_net_here", "_law_olds", "_law_lies"] (spU K mg u_qtrials_k15) := by
  refine fn_u (N := ["_law_feed_here", "_law_net_here", "_law_olds", "_law_lies", "_law_first", "_law_left", "_law_trials_here", "_law_k", "_law_make", "_law_answer", "_law_way"]) (ps := ["_law_feed_here", "_law_net_here", "_law_olds", "_law_lies"]) (k := 1) F sc_qtrials (b := b_qtrials_k15) (by decide) fun X W h => ?_
  have C := h.cf
  have hb_len : X.mg "len" = none := by rw [h.mg]; exact E.b_len
  have hb_range : X.mg "range" = none := by rw [h.mg]; exact E.b_range
  have hb_int : X.mg "int" = none := by rw [h.mg]; exact E.b_int
  have c_qtake := (ok_qtake (P := P) (w := w) (base := base) E).u h (by omega)
  have n0 : (["_law_feed_here", "_law_net_here", "_law_olds", "_law_lies", "_law_first", "_law_left", "_law_trials_here", "_law_k", "_law_make", "_law_answer", "_law_way"] : List Str)[0]? = some ("_law_feed_here" : Str) := rfl
  have v0 : visB (defScope (top 33)) "_law_feed_here" = true := by decide +kernel
  have s0 : Sto X (defScope (top 33)) "_law_feed_here" := sto_c h.fn (by decide +kernel)
  have n1 : (["_law_feed_here", "_law_net_here", "_law_olds", "_law_lies", "_law_first", "_law_left", "_law_trials_here", "_law_k", "_law_make", "_law_answer", "_law_way"] : List Str)[1]? = some ("_law_net_here" : Str) := rfl
  have v1 : visB (defScope (top 33)) "_law_net_here" = true := by decide +kernel
  have s1 : Sto X (defScope (top 33)) "_law_net_here" := sto_c h.fn (by decide +kernel)
  have n2 : (["_law_feed_here", "_law_net_here", "_law_olds", "_law_lies", "_law_first", "_law_left", "_law_trials_here", "_law_k", "_law_make", "_law_answer", "_law_way"] : List Str)[2]? = some ("_law_olds" : Str) := rfl
  have v2 : visB (defScope (top 33)) "_law_olds" = true := by decide +kernel
  have s2 : Sto X (defScope (top 33)) "_law_olds" := sto_c h.fn (by decide +kernel)
  have n3 : (["_law_feed_here", "_law_net_here", "_law_olds", "_law_lies", "_law_first", "_law_left", "_law_trials_here", "_law_k", "_law_make", "_law_answer", "_law_way"] : List Str)[3]? = some ("_law_lies" : Str) := rfl
  have v3 : visB (defScope (top 33)) "_law_lies" = true := by decide +kernel
  have s3 : Sto X (defScope (top 33)) "_law_lies" := sto_c h.fn (by decide +kernel)
  have n4 : (["_law_feed_here", "_law_net_here", "_law_olds", "_law_lies", "_law_first", "_law_left", "_law_trials_here", "_law_k", "_law_make", "_law_answer", "_law_way"] : List Str)[4]? = some ("_law_first" : Str) := rfl
  have v4 : visB (defScope (top 33)) "_law_first" = true := by decide +kernel
  have s4 : Sto X (defScope (top 33)) "_law_first" := sto_c h.fn (by decide +kernel)
  have n5 : (["_law_feed_here", "_law_net_here", "_law_olds", "_law_lies", "_law_first", "_law_left", "_law_trials_here", "_law_k", "_law_make", "_law_answer", "_law_way"] : List Str)[5]? = some ("_law_left" : Str) := rfl
  have v5 : visB (defScope (top 33)) "_law_left" = true := by decide +kernel
  have s5 : Sto X (defScope (top 33)) "_law_left" := sto_c h.fn (by decide +kernel)
  have n6 : (["_law_feed_here", "_law_net_here", "_law_olds", "_law_lies", "_law_first", "_law_left", "_law_trials_here", "_law_k", "_law_make", "_law_answer", "_law_way"] : List Str)[6]? = some ("_law_trials_here" : Str) := rfl
  have v6 : visB (defScope (top 33)) "_law_trials_here" = true := by decide +kernel
  have s6 : Sto X (defScope (top 33)) "_law_trials_here" := sto_c h.fn (by decide +kernel)
  have n7 : (["_law_feed_here", "_law_net_here", "_law_olds", "_law_lies", "_law_first", "_law_left", "_law_trials_here", "_law_k", "_law_make", "_law_answer", "_law_way"] : List Str)[7]? = some ("_law_k" : Str) := rfl
  have v7 : visB (defScope (top 33)) "_law_k" = true := by decide +kernel
  have s7 : Sto X (defScope (top 33)) "_law_k" := sto_c h.fn (by decide +kernel)
  have n8 : (["_law_feed_here", "_law_net_here", "_law_olds", "_law_lies", "_law_first", "_law_left", "_law_trials_here", "_law_k", "_law_make", "_law_answer", "_law_way"] : List Str)[8]? = some ("_law_make" : Str) := rfl
  have v8 : visB (defScope (top 33)) "_law_make" = true := by decide +kernel
  have s8 : Sto X (defScope (top 33)) "_law_make" := sto_c h.fn (by decide +kernel)
  have n9 : (["_law_feed_here", "_law_net_here", "_law_olds", "_law_lies", "_law_first", "_law_left", "_law_trials_here", "_law_k", "_law_make", "_law_answer", "_law_way"] : List Str)[9]? = some ("_law_answer" : Str) := rfl
  have v9 : visB (defScope (top 33)) "_law_answer" = true := by decide +kernel
  have s9 : Sto X (defScope (top 33)) "_law_answer" := sto_c h.fn (by decide +kernel)
  have n10 : (["_law_feed_here", "_law_net_here", "_law_olds", "_law_lies", "_law_first", "_law_left", "_law_trials_here", "_law_k", "_law_make", "_law_answer", "_law_way"] : List Str)[10]? = some ("_law_way" : Str) := rfl
  have v10 : visB (defScope (top 33)) "_law_way" = true := by decide +kernel
  have s10 : Sto X (defScope (top 33)) "_law_way" := sto_c h.fn (by decide +kernel)
  unfold b_qtrials_k15
  exact (cs_cons (c1_set C.toCf0 4 n4 s4 (ce_x (cx_callC C.toCf0 0 c_qtake (by decide +kernel) (fun _ _ => .nil) (ca_cons (ce_var C.toCf0 0 n0 (by decide +kernel)) (ca_cons (ce_len C.toCf0 (by decide +kernel) hb_len (ca_cons (ce_var C.toCf0 1 n1 (by decide +kernel)) ca_nil)) ca_nil))))) (cs_cons (c1_set C.toCf0 5 n5 s5 (ce_frz (ce_var C.toCf0 3 n3 (by decide +kernel)))) (cs_cons (c1_setX C.toCf0 6 n6 s6 (cx_c (cc_l (cn_lst ca_nil)))) (cs_cons (c1_for C [7, 8, 9, 10] (ci_range1 C.toCf0 (by decide +kernel) hb_range (ce_x (cx_callC C.toCf0 0 c_qtake (by decide +kernel) (fun _ _ => .nil) (ca_cons (ce_var C.toCf0 0 n0 (by decide +kernel)) (ca_cons (ce_ixB C.toCf0 (ce_ofN (cn_lst (ca_cons ce_int (ca_cons ce_int (ca_cons ce_int (ca_cons ce_int (ca_cons ce_int (ca_cons ce_int ca_nil)))))))) (ce_x (cx_callC C.toCf0 0 c_qtake (by decide +kernel) (fun _ _ => .nil) (ca_cons (ce_var C.toCf0 0 n0 (by decide +kernel)) (ca_cons ce_int ca_nil))))) ca_nil))))) (cg_name C.toCf0 7 n7 s7) (cs_cons (c1_set C.toCf0 8 n8 s8 (ce_x (cx_callC C.toCf0 0 c_qtake (by decide +kernel) (fun _ _ => .nil) (ca_cons (ce_var C.toCf0 0 n0 (by decide +kernel)) (ca_cons (ce_len C.toCf0 (by decide +kernel) hb_len (ca_cons (ce_var C.toCf0 1 n1 (by decide +kernel)) ca_nil)) ca_nil))))) (cs_cons (c1_set C.toCf0 9 n9 s9 (ce_frz (ce_ixB C.toCf0 (ce_ofN (cn_lst (ca_cons ce_str (ca_cons ce_str ca_nil)))) (ce_intc C.toCf0 (by decide +kernel) hb_int (ca_cons (ce_inB C.toCf0 (ce_var C.toCf0 4 n4 (by decide +kernel)) (ce_ixB C.toCf0 (ce_var C.toCf0 2 n2 (by decide +kernel)) (ce_var C.toCf0 8 n8 (by decide +kernel)))) ca_nil))))) (cs_cons (c1_set C.toCf0 10 n10 s10 (ce_x (cx_callC C.toCf0 0 c_qtake (by decide +kernel) (fun _ _ => .nil) (ca_cons (ce_var C.toCf0 0 n0 (by decide +kernel)) (ca_cons ce_int ca_nil))))) (cs_cons (c1_if (ct_cmp (ce_eq C.toCf0 (ce_var C.toCf0 10 n10 (by decide +kernel)) ce_int)) (cs_cons (c1_set C.toCf0 9 n9 s9 ce_str) cs_nil) (cs_cons (c1_if (ct_w (cw_and (ct_cmp (ce_lt (ce_var C.toCf0 10 n10 (by decide +kernel)) ce_int)) (cw_and1 (ct_cmp (ce_gt (ce_var C.toCf0 5 n5 (by decide +kernel)) ce_int))))) (cs_cons (c1_set C.toCf0 9 n9 s9 (ce_frz (ce_ixB C.toCf0 (ce_ofN (cn_lst (ca_cons ce_str (ca_cons ce_str ca_nil)))) (ce_intc C.toCf0 (by decide +kernel) hb_int (ca_cons (ce_eq C.toCf0 (ce_var C.toCf0 9 n9 (by decide +kernel)) ce_str) ca_nil))))) (cs_cons (c1_set C.toCf0 5 n5 s5 (ce_sub (ce_var C.toCf0 5 n5 (by decide +kernel)) ce_int)) cs_nil)) cs_nil) cs_nil)) (cs_cons (c1_expr (ce_append C.toCf0 6 n6 (by decide +kernel) (ce_tup (ca_cons (ce_frz (ce_var C.toCf0 8 n8 (by decide +kernel))) (ca_cons (ce_frz (ce_var C.toCf0 9 n9 (by decide +kernel))) ca_nil))))) cs_nil)))))) (cs_cons (c1_retT (ca_cons (ce_frz (ce_var C.toCf0 4 n4 (by decide +kernel))) (ca_cons (ce_var C.toCf0 6 n6 (by decide +kernel)) ca_nil))) cs_nil)))))
theorem ok_qtrials {P : Program} {w : World} {K : PySem.W.Frag} {mg : Str → Option Value} {base : Heap} (E : Env K mg) : Gv P w K mg base (1 + 1) "_law_trials" [] (spU K mg u_qtrials_k15) := by
  obtain ⟨f, fd, F, hmg⟩ := E.d_qtrials
  exact Gv.of F hmg (fo_qtrials E F) (F.bindsN fun _ _ _ _ _ _ us hl => match us, hl with | [_, _, _, _], _ => rfl) .nil
theorem sc_qspeaks : FnScope ["_law_olds", "_law_trial", "_law_make", "_law_tried", "_law_answer"] ["_law_olds", "_law_trial", "_law_make"] (defScope (top 30)) := ⟨rfl, rfl, rfl, by decide +kernel, rfl, by decide +kernel, by decide +kernel⟩
theorem fo_qspeaks {P : Program} {w : World} {K : PySem.W.Frag} {mg : Str → Option Value} {base : Heap} (E : Env K mg) {f : Addr} {fd : FuncData} (F : FunD K "_law_speaks" "_law_speaks" (defArgs (top 30)) (defBody (top 30)) (defScope (top 30)) [] [] f fd) : FnOk P w K mg base (L2N.CX P w) (0 + 1) f fd ["_law_olds", "_law_trial", "_law_make"] (spU K mg u_qspeaks) := by
  refine fn_u (N := ["_law_olds", "_law_trial", "_law_make", "_law_tried", "_law_answer"]) (ps := ["_law_olds", "_law_trial", "_law_make"]) (k := 0) F sc_qspeaks (b := b_qspeaks) (by decide) fun X W h => ?_
  have C := h.cf
  have n0 : (["_law_olds", "_law_trial", "_law_make", "_law_tried", "_law_answer"] : List Str)[0]? = some ("_law_olds" : Str) := rfl
  have v0 : visB (defScope (top 30)) "_law_olds" = true := by decide +kernel
  have s0 : Sto X (defScope (top 30)) "_law_olds" := sto_c h.fn (by decide +kernel)
  have n1 : (["_law_olds", "_law_trial", "_law_make", "_law_tried", "_law_answer"] : List Str)[1]? = some ("_law_trial" : Str) := rfl
  have v1 : visB (defScope (top 30)) "_law_trial" = true := by decide +kernel
  have s1 : Sto X (defScope (top 30)) "_law_trial" := sto_c h.fn (by decide +kernel)
  have n2 : (["_law_olds", "_law_trial", "_law_make", "_law_tried", "_law_answer"] : List Str)[2]? = some ("_law_make" : Str) := rfl
  have v2 : visB (defScope (top 30)) "_law_make" = true := by decide +kernel
  have s2 : Sto X (defScope (top 30)) "_law_make" := sto_c h.fn (by decide +kernel)
  have n3 : (["_law_olds", "_law_trial", "_law_make", "_law_tried", "_law_answer"] : List Str)[3]? = some ("_law_tried" : Str) := rfl
  have v3 : visB (defScope (top 30)) "_law_tried" = true := by decide +kernel
  have s3 : Sto X (defScope (top 30)) "_law_tried" := sto_c h.fn (by decide +kernel)
  have n4 : (["_law_olds", "_law_trial", "_law_make", "_law_tried", "_law_answer"] : List Str)[4]? = some ("_law_answer" : Str) := rfl
  have v4 : visB (defScope (top 30)) "_law_answer" = true := by decide +kernel
  have s4 : Sto X (defScope (top 30)) "_law_answer" := sto_c h.fn (by decide +kernel)
  unfold b_qspeaks
  exact (cs_cons (c1_setG (cg_tup2 C (cg_name C.toCf0 3 n3 s3) (cg_name C.toCf0 4 n4 s4)) (ce_frz (ce_var C.toCf0 1 n1 (by decide +kernel)))) (cs_cons (c1_if (ct_cmp (ce_eq C.toCf0 (ce_var C.toCf0 4 n4 (by decide +kernel)) ce_str)) (cs_cons (c1_ret ce_bool) cs_nil) cs_nil) (cs_cons (c1_ret (ce_eq C.toCf0 (ce_inB C.toCf0 (ce_var C.toCf0 2 n2 (by decide +kernel)) (ce_ixB C.toCf0 (ce_var C.toCf0 0 n0 (by decide +kernel)) (ce_var C.toCf0 3 n3 (by decide +kernel)))) (ce_eq C.toCf0 (ce_var C.toCf0 4 n4 (by decide +kernel)) ce_str))) cs_nil)))
theorem ok_qspeaks {P : Program} {w : World} {K : PySem.W.Frag} {mg : Str → Option Value} {base : Heap} (E : Env K mg) : Gv P w K mg base (0 + 1) "_law_speaks" [] (spU K mg u_qspeaks) := by
  obtain ⟨f, fd, F, hmg⟩ := E.d_qspeaks
  exact Gv.of F hmg (fo_qspeaks E F) (F.bindsN fun _ _ _ _ _ _ us hl => match us, hl with | [_, _, _], _ => rfl) .nil
theorem xm_NoTrial {P : Program} {w : World} {K : PySem.W.Frag} {mg : Str → Option Value} {base : Heap} (E : Env K mg) {X : Cx} {W : WX} {sc : Scope} {N : List Str} {k : Nat} (h : Here X W P w K mg base sc N k) (hk : 2 ≤ k) : XMk X "NoTrial" ["place"] := by
  obtain ⟨fd, F⟩ := E.i_NoTrial
  exact xm1 h hk F (F.bindsN fun _ _ _ _ _ _ us hl => match us, hl with | [_, _], _ => rfl) E.j_NoTrial E.x_all E.hunt.1 E.hunt.2 (by decide +kernel) (by decide +kernel) ⟨rfl, rfl, rfl, by decide +kernel, rfl, by decide +kernel, by decide +kernel⟩ ⟨_, _, _, _, _, _, _, _, _, _, _, _, rfl, fun env => ⟨_, rfl⟩⟩ (by decide +kernel) (by decide +kernel) (by decide +kernel)
theorem sc_p_check_trials : FnScope ["net", "trials", "place", "make", "answer"] ["net", "trials"] (defScope (top 19)) := ⟨rfl, rfl, rfl, by decide +kernel, rfl, by decide +kernel, by decide +kernel⟩
theorem fo_p_check_trials {P : Program} {w : World} {K : PySem.W.Frag} {mg : Str → Option Value} {base : Heap} (E : Env K mg) {f : Addr} {fd : FuncData} (F : FunD K "check_trials" "check_trials" (defArgs (top 19)) (defBody (top 19)) (defScope (top 19)) [] [] f fd) : FnOk P w K mg base (L2N.CX P w) (2 + 1) f fd ["net", "trials"] (spU K mg u_p_check_trials) := by
  refine fn_u (N := ["net", "trials", "place", "make", "answer"]) (ps := ["net", "trials"]) (k := 2) F sc_p_check_trials (b := b_p_check_trials) (by decide) fun X W h => ?_
  have C := h.cf
  have hb_enumerate : X.mg "enumerate" = none := by rw [h.mg]; exact E.b_enumerate
  have hb_len : X.mg "len" = none := by rw [h.mg]; exact E.b_len
  have hX : XAll X.K X.mg ["NoTrial", "NoTruth"] ["HuntError", "NoBook", "NoMake", "NoName", "NoNet", "NoOrder", "NoPlan", "NoRow", "NoText", "NoTrial", "NoTruth", "NothingTold", "TooGreat", "ValueError"] ["HuntError"] ["place", "rows"] := by rw [h.K, h.mg]; exact E.x_all
  have ht_ANSWERS : GT X.K X.mg "ANSWERS" [.str "good", .str "bad", .str "cannot"] [.str "good", .str "bad", .str "cannot"] := by rw [h.K, h.mg]; exact E.t_ANSWERS
  have m_NoTrial := xm_NoTrial E h (by omega)
  have n0 : (["net", "trials", "place", "make", "answer"] : List Str)[0]? = some ("net" : Str) := rfl
  have v0 : visB (defScope (top 19)) "net" = true := by decide +kernel
  have s0 : Sto X (defScope (top 19)) "net" := sto_c h.fn (by decide +kernel)
  have n1 : (["net", "trials", "place", "make", "answer"] : List Str)[1]? = some ("trials" : Str) := rfl
  have v1 : visB (defScope (top 19)) "trials" = true := by decide +kernel
  have s1 : Sto X (defScope (top 19)) "trials" := sto_c h.fn (by decide +kernel)
  have n2 : (["net", "trials", "place", "make", "answer"] : List Str)[2]? = some ("place" : Str) := rfl
  have v2 : visB (defScope (top 19)) "place" = true := by decide +kernel
  have s2 : Sto X (defScope (top 19)) "place" := sto_c h.fn (by decide +kernel)
  have n3 : (["net", "trials", "place", "make", "answer"] : List Str)[3]? = some ("make" : Str) := rfl
  have v3 : visB (defScope (top 19)) "make" = true := by decide +kernel
  have s3 : Sto X (defScope (top 19)) "make" := sto_c h.fn (by decide +kernel)
  have n4 : (["net", "trials", "place", "make", "answer"] : List Str)[4]? = some ("answer" : Str) := rfl
  have v4 : visB (defScope (top 19)) "answer" = true := by decide +kernel
  have s4 : Sto X (defScope (top 19)) "answer" := sto_c h.fn (by decide +kernel)
  unfold b_p_check_trials
  exact (cs_cons (c1_for C [2, 3, 4] (ci_enum C.toCf0 (by decide +kernel) hb_enumerate (ce_var C.toCf0 1 n1 (by decide +kernel))) (cg_tup2 C (cg_name C.toCf0 2 n2 s2) (cg_tup2 C (cg_name C.toCf0 3 n3 s3) (cg_name C.toCf0 4 n4 s4))) (cs_cons (c1_if (ct_w (cw_or (ct_cmp (ce_lt (ce_var C.toCf0 3 n3 (by decide +kernel)) ce_int)) (cw_or (ct_cmp (ce_ge (ce_var C.toCf0 3 n3 (by decide +kernel)) (ce_len C.toCf0 (by decide +kernel) hb_len (ca_cons (ce_var C.toCf0 0 n0 (by decide +kernel)) ca_nil)))) (cw_or1 (ct_cmp (ce_notinG C.toCf0 ht_ANSWERS (by decide +kernel) (ce_var C.toCf0 4 n4 (by decide +kernel)))))))) (cs_cons (c1_raise C hX m_NoTrial (by decide +kernel) (by decide +kernel) (ca_cons (ce_frz (ce_var C.toCf0 2 n2 (by decide +kernel))) ca_nil)) cs_nil) cs_nil) cs_nil)) cs_nil)
theorem ok_p_check_trials {P : Program} {w : World} {K : PySem.W.Frag} {mg : Str → Option Value} {base : Heap} (E : Env K mg) : Gv P w K mg base (2 + 1) "check_trials" [] (spU K mg u_p_check_trials) := by
  obtain ⟨f, fd, F, hmg⟩ := E.d_p_check_trials
  exact Gv.of F hmg (fo_p_check_trials E F) (F.bindsN fun _ _ _ _ _ _ us hl => match us, hl with | [_, _], _ => rfl) .nil
theorem sc_p_bits_of : FnScope ["net", "found", "make", "elders", "bits", "elder"] ["net"] (defScope (top 15)) := ⟨rfl, rfl, rfl, by decide +kernel, rfl, by decide +kernel, by decide +kernel⟩
theorem fo_p_bits_of {P : Program} {w : World} {K : PySem.W.Frag} {mg : Str → Option Value} {base : Heap} (E : Env K mg) {f : Addr} {fd : FuncData} (F : FunD K "bits_of" "bits_of" (defArgs (top 15)) (defBody (top 15)) (defScope (top 15)) [] [] f fd) : FnOk P w K mg base (L2N.CX P w) (0 + 1) f fd ["net"] (spU K mg uBitsOf) := by
  refine fn_u (N := ["net", "found", "make", "elders", "bits", "elder"]) (ps := ["net"]) (k := 0) F sc_p_bits_of (b := bBitsOf) (by decide) fun X W h => ?_
  have C := h.cf
  have hb_enumerate : X.mg "enumerate" = none := by rw [h.mg]; exact E.b_enumerate
  have n0 : (["net", "found", "make", "elders", "bits", "elder"] : List Str)[0]? = some ("net" : Str) := rfl
  have v0 : visB (defScope (top 15)) "net" = true := by decide +kernel
  have s0 : Sto X (defScope (top 15)) "net" := sto_c h.fn (by decide +kernel)
  have n1 : (["net", "found", "make", "elders", "bits", "elder"] : List Str)[1]? = some ("found" : Str) := rfl
  have v1 : visB (defScope (top 15)) "found" = true := by decide +kernel
  have s1 : Sto X (defScope (top 15)) "found" := sto_c h.fn (by decide +kernel)
  have n2 : (["net", "found", "make", "elders", "bits", "elder"] : List Str)[2]? = some ("make" : Str) := rfl
  have v2 : visB (defScope (top 15)) "make" = true := by decide +kernel
  have s2 : Sto X (defScope (top 15)) "make" := sto_c h.fn (by decide +kernel)
  have n3 : (["net", "found", "make", "elders", "bits", "elder"] : List Str)[3]? = some ("elders" : Str) := rfl
  have v3 : visB (defScope (top 15)) "elders" = true := by decide +kernel
  have s3 : Sto X (defScope (top 15)) "elders" := sto_c h.fn (by decide +kernel)
  have n4 : (["net", "found", "make", "elders", "bits", "elder"] : List Str)[4]? = some ("bits" : Str) := rfl
  have v4 : visB (defScope (top 15)) "bits" = true := by decide +kernel
  have s4 : Sto X (defScope (top 15)) "bits" := sto_c h.fn (by decide +kernel)
  have n5 : (["net", "found", "make", "elders", "bits", "elder"] : List Str)[5]? = some ("elder" : Str) := rfl
  have v5 : visB (defScope (top 15)) "elder" = true := by decide +kernel
  have s5 : Sto X (defScope (top 15)) "elder" := sto_c h.fn (by decide +kernel)
  unfold bBitsOf
  exact (cs_cons (c1_setX C.toCf0 1 n1 s1 (cx_c (cc_l (cn_lst ca_nil)))) (cs_cons (c1_for C [2, 3, 4, 5] (ci_enum C.toCf0 (by decide +kernel) hb_enumerate (ce_var C.toCf0 0 n0 (by decide +kernel))) (cg_tup2 C (cg_name C.toCf0 2 n2 s2) (cg_name C.toCf0 3 n3 s3)) (cs_cons (c1_set C.toCf0 4 n4 s4 (ce_shl ce_int (ce_var C.toCf0 2 n2 (by decide +kernel)))) (cs_cons (c1_for C [5] (ci_seq (ce_var C.toCf0 3 n3 (by decide +kernel))) (cg_name C.toCf0 5 n5 s5) (cs_cons (c1_set C.toCf0 4 n4 s4 (ce_bor (ce_var C.toCf0 4 n4 (by decide +kernel)) (ce_ixB C.toCf0 (ce_var C.toCf0 1 n1 (by decide +kernel)) (ce_var C.toCf0 5 n5 (by decide +kernel))))) cs_nil)) (cs_cons (c1_expr (ce_append C.toCf0 1 n1 (by decide +kernel) (ce_var C.toCf0 4 n4 (by decide +kernel)))) cs_nil)))) (cs_cons (c1_retO C.toCf0 1 n1 (by decide +kernel)) cs_nil)))
theorem ok_p_bits_of {P : Program} {w : World} {K : PySem.W.Frag} {mg : Str → Option Value} {base : Heap} (E : Env K mg) : Gv P w K mg base (0 + 1) "bits_of" [] (spU K mg uBitsOf) := by
  obtain ⟨f, fd, F, hmg⟩ := E.d_p_bits_of
  exact Gv.of F hmg (fo_p_bits_of E F) (F.bindsN fun _ _ _ _ _ _ us hl => match us, hl with | [_], _ => rfl) .nil
theorem sc_p_is_in : FnScope ["mask", "make"] ["mask", "make"] (defScope (top 16)) := ⟨rfl, rfl, rfl, by decide +kernel, rfl, by decide +kernel, by decide +kernel⟩
theorem fo_p_is_in {P : Program} {w : World} {K : PySem.W.Frag} {mg : Str → Option Value} {base : Heap} (E : Env K mg) {f : Addr} {fd : FuncData} (F : FunD K "is_in" "is_in" (defArgs (top 16)) (defBody (top 16)) (defScope (top 16)) [] [] f fd) : FnOk P w K mg base (L2N.CX P w) (0 + 1) f fd ["mask", "make"] (spU K mg uIsIn) := by
  refine fn_u (N := ["mask", "make"]) (ps := ["mask", "make"]) (k := 0) F sc_p_is_in (b := bIsIn) (by decide) fun X W h => ?_
  have C := h.cf
  have n0 : (["mask", "make"] : List Str)[0]? = some ("mask" : Str) := rfl
  have v0 : visB (defScope (top 16)) "mask" = true := by decide +kernel
  have s0 : Sto X (defScope (top 16)) "mask" := sto_c h.fn (by decide +kernel)
  have n1 : (["mask", "make"] : List Str)[1]? = some ("make" : Str) := rfl
  have v1 : visB (defScope (top 16)) "make" = true := by decide +kernel
  have s1 : Sto X (defScope (top 16)) "make" := sto_c h.fn (by decide +kernel)
  unfold bIsIn
  exact (cs_cons (c1_ret (ce_eq C.toCf0 (ce_band (ce_shr (ce_var C.toCf0 0 n0 (by decide +kernel)) (ce_var C.toCf0 1 n1 (by decide +kernel))) ce_int) ce_int)) cs_nil)
theorem ok_p_is_in {P : Program} {w : World} {K : PySem.W.Frag} {mg : Str → Option Value} {base : Heap} (E : Env K mg) : Gv P w K mg base (0 + 1) "is_in" [] (spU K mg uIsIn) := by
  obtain ⟨f, fd, F, hmg⟩ := E.d_p_is_in
  exact Gv.of F hmg (fo_p_is_in E F) (F.bindsN fun _ _ _ _ _ _ us hl => match us, hl with | [_, _], _ => rfl) .nil
theorem sc_p_speaks : FnScope ["bits", "trial", "make", "tried", "answer"] ["bits", "trial", "make"] (defScope (top 20)) := ⟨rfl, rfl, rfl, by decide +kernel, rfl, by decide +kernel, by decide +kernel⟩
theorem fo_p_speaks {P : Program} {w : World} {K : PySem.W.Frag} {mg : Str → Option Value} {base : Heap} (E : Env K mg) {f : Addr} {fd : FuncData} (F : FunD K "speaks" "speaks" (defArgs (top 20)) (defBody (top 20)) (defScope (top 20)) [] [] f fd) : FnOk P w K mg base (L2N.CX P w) (1 + 1) f fd ["bits", "trial", "make"] (spU K mg u_p_speaks) := by
  refine fn_u (N := ["bits", "trial", "make", "tried", "answer"]) (ps := ["bits", "trial", "make"]) (k := 1) F sc_p_speaks (b := b_p_speaks) (by decide) fun X W h => ?_
  have C := h.cf
  have c_p_is_in := (ok_p_is_in (P := P) (w := w) (base := base) E).u h (by omega)
  have n0 : (["bits", "trial", "make", "tried", "answer"] : List Str)[0]? = some ("bits" : Str) := rfl
  have v0 : visB (defScope (top 20)) "bits" = true := by decide +kernel
  have s0 : Sto X (defScope (top 20)) "bits" := sto_c h.fn (by decide +kernel)
  have n1 : (["bits", "trial", "make", "tried", "answer"] : List Str)[1]? = some ("trial" : Str) := rfl
  have v1 : visB (defScope (top 20)) "trial" = true := by decide +kernel
  have s1 : Sto X (defScope (top 20)) "trial" := sto_c h.fn (by decide +kernel)
  have n2 : (["bits", "trial", "make", "tried", "answer"] : List Str)[2]? = some ("make" : Str) := rfl
  have v2 : visB (defScope (top 20)) "make" = true := by decide +kernel
  have s2 : Sto X (defScope (top 20)) "make" := sto_c h.fn (by decide +kernel)
  have n3 : (["bits", "trial", "make", "tried", "answer"] : List Str)[3]? = some ("tried" : Str) := rfl
  have v3 : visB (defScope (top 20)) "tried" = true := by decide +kernel
  have s3 : Sto X (defScope (top 20)) "tried" := sto_c h.fn (by decide +kernel)
  have n4 : (["bits", "trial", "make", "tried", "answer"] : List Str)[4]? = some ("answer" : Str) := rfl
  have v4 : visB (defScope (top 20)) "answer" = true := by decide +kernel
  have s4 : Sto X (defScope (top 20)) "answer" := sto_c h.fn (by decide +kernel)
  unfold b_p_speaks
  exact (cs_cons (c1_setG (cg_tup2 C (cg_name C.toCf0 3 n3 s3) (cg_name C.toCf0 4 n4 s4)) (ce_frz (ce_var C.toCf0 1 n1 (by decide +kernel)))) (cs_cons (c1_if (ct_cmp (ce_eq C.toCf0 (ce_var C.toCf0 4 n4 (by decide +kernel)) ce_str)) (cs_cons (c1_ret (ce_not (ce_x (cx_call C.toCf0 c_p_is_in (by decide +kernel) (fun _ _ => .nil) (ca_cons (ce_ixB C.toCf0 (ce_var C.toCf0 0 n0 (by decide +kernel)) (ce_var C.toCf0 3 n3 (by decide +kernel))) (ca_cons (ce_var C.toCf0 2 n2 (by decide +kernel)) ca_nil)))))) cs_nil) cs_nil) (cs_cons (c1_ret (ce_and (ce_eq C.toCf0 (ce_var C.toCf0 4 n4 (by decide +kernel)) ce_str) (ce_one (ce_x (cx_call C.toCf0 c_p_is_in (by decide +kernel) (fun _ _ => .nil) (ca_cons (ce_ixB C.toCf0 (ce_var C.toCf0 0 n0 (by decide +kernel)) (ce_var C.toCf0 3 n3 (by decide +kernel))) (ca_cons (ce_var C.toCf0 2 n2 (by decide +kernel)) ca_nil))))))) cs_nil)))
theorem ok_p_speaks {P : Program} {w : World} {K : PySem.W.Frag} {mg : Str → Option Value} {base : Heap} (E : Env K mg) : Gv P w K mg base (1 + 1) "speaks" [] (spU K mg u_p_speaks) := by
  obtain ⟨f, fd, F, hmg⟩ := E.d_p_speaks
  exact Gv.of F hmg (fo_p_speaks E F) (F.bindsN fun _ _ _ _ _ _ us hl => match us, hl with | [_, _, _], _ => rfl) .nil
theorem sc_p_places_against : FnScope ["bits", "trials", "make", "place", "trial"] ["bits", "trials", "make"] (defScope (top 21)) := ⟨rfl, rfl, rfl, by decide +kernel, rfl, by decide +kernel, by decide +kernel⟩
theorem fo_p_places_against {P : Program} {w : World} {K : PySem.W.Frag} {mg : Str → Option Value} {base : Heap} (E : Env K mg) {f : Addr} {fd : FuncData} (F : FunD K "places_against" "places_against" (defArgs (top 21)) (defBody (top 21)) (defScope (top 21)) [] [] f fd) : FnOk P w K mg base (L2N.CX P w) (2 + 1) f fd ["bits", "trials", "make"] (spU K mg u_p_places_against) := by
  refine fn_u (N := ["bits", "trials", "make", "place", "trial"]) (ps := ["bits", "trials", "make"]) (k := 2) F sc_p_places_against (b := b_p_places_against) (by decide) fun X W h => ?_
  have C := h.cf
  have hb_enumerate : X.mg "enumerate" = none := by rw [h.mg]; exact E.b_enumerate
  have c_p_speaks := (ok_p_speaks (P := P) (w := w) (base := base) E).u h (by omega)
  have n0 : (["bits", "trials", "make", "place", "trial"] : List Str)[0]? = some ("bits" : Str) := rfl
  have v0 : visB (defScope (top 21)) "bits" = true := by decide +kernel
  have s0 : Sto X (defScope (top 21)) "bits" := sto_c h.fn (by decide +kernel)
  have n1 : (["bits", "trials", "make", "place", "trial"] : List Str)[1]? = some ("trials" : Str) := rfl
  have v1 : visB (defScope (top 21)) "trials" = true := by decide +kernel
  have s1 : Sto X (defScope (top 21)) "trials" := sto_c h.fn (by decide +kernel)
  have n2 : (["bits", "trials", "make", "place", "trial"] : List Str)[2]? = some ("make" : Str) := rfl
  have v2 : visB (defScope (top 21)) "make" = true := by decide +kernel
  have s2 : Sto X (defScope (top 21)) "make" := sto_c h.fn (by decide +kernel)
  have n3 : (["bits", "trials", "make", "place", "trial"] : List Str)[3]? = some ("place" : Str) := rfl
  have n4 : (["bits", "trials", "make", "place", "trial"] : List Str)[4]? = some ("trial" : Str) := rfl
  unfold b_p_places_against
  exact (cs_cons (c1_retC (cc_l (cn_comp C (CompU.mk (own := [("place", 3), ("trial", 4)]) (ci_enum C.toCf0 (by decide +kernel) hb_enumerate (ce_var C.toCf0 1 n1 (by decide +kernel))) (by decide +kernel) (fun _ _ _ _ _ => (cg_tup2 (Cf.blk C) (cg_name (Cf.blk C).toCf0 3 n3 (sto_l (by decide +kernel))) (cg_name (Cf.blk C).toCf0 4 n4 (sto_l (by decide +kernel))))) (fun _ _ _ _ _ => (cts_one (ct_of (ce_x (cx_call (Cf.blk C).toCf0 c_p_speaks.blk (by decide +kernel) (fun _ _ => .nil) (ca_cons (ce_var (Cf.blk C).toCf0 0 n0 (by decide +kernel)) (ca_cons (ce_var (Cf.blk C).toCf0 4 n4 (by decide +kernel)) (ca_cons (ce_var (Cf.blk C).toCf0 2 n2 (by decide +kernel)) ca_nil)))))))) (fun _ _ _ _ _ => (ce_frz (ce_var (Cf.blk C).toCf0 3 n3 (by decide +kernel)))) (by decide) (fun _ => rfl))))) cs_nil)
theorem ok_p_places_against {P : Program} {w : World} {K : PySem.W.Frag} {mg : Str → Option Value} {base : Heap} (E : Env K mg) : Gv P w K mg base (2 + 1) "places_against" [] (spU K mg u_p_places_against) := by
  obtain ⟨f, fd, F, hmg⟩ := E.d_p_places_against
  exact Gv.of F hmg (fo_p_places_against E F) (F.bindsN fun _ _ _ _ _ _ us hl => match us, hl with | [_, _, _], _ => rfl) .nil
theorem xm_NoTruth {P : Program} {w : World} {K : PySem.W.Frag} {mg : Str → Option Value} {base : Heap} (E : Env K mg) {X : Cx} {W : WX} {sc : Scope} {N : List Str} {k : Nat} (h : Here X W P w K mg base sc N k) (hk : 2 ≤ k) : XMk X "NoTruth" ["rows"] := by
  obtain ⟨fd, F⟩ := E.i_NoTruth
  exact xm1 h hk F (F.bindsN fun _ _ _ _ _ _ us hl => match us, hl with | [_, _], _ => rfl) E.j_NoTruth E.x_all E.hunt.1 E.hunt.2 (by decide +kernel) (by decide +kernel) ⟨rfl, rfl, rfl, by decide +kernel, rfl, by decide +kernel, by decide +kernel⟩ ⟨_, _, _, _, _, _, _, _, _, _, _, _, rfl, fun env => ⟨_, rfl⟩⟩ (by decide +kernel) (by decide +kernel) (by decide +kernel)
def b_p_known_k15 : DS := (bSeq (bExprX (xCall u_p_check_trials [] (dAc (dVar 0) (dAc (dVar 1) dA0)))) (bSeq (bSet 3 (eX (xCall uBitsOf [] (dAc (dVar 0) dA0)))) (bSeq (bSet 4 (dOfN (nComp [6] (gN 6) (iRange1 (dB kLen (dAc (dVar 0) dA0))) tYes (dFrz (eX (xCall u_p_places_against [] (dAc (dVar 3) (dAc (dVar 1) (dAc (dVar 6) dA0))))))))) (bSeq (bSet 5 (dOfN (nComp [6, 7] (gT2 (gN 6) (gN 7)) (iEnum (dVar 4)) (dTst (dCmp (kI fun i j => decide (i ≤ j)) (dB kLen (dAc (dVar 7) dA0)) (dVar 2))) (dFrz (dTup (dAc (dFrz (dVar 6)) (dAc (dB kLen (dAc (dVar 7) dA0)) dA0))))))) (bSeq (bIf (dTst (dCmp kEq (dVar 5) (dOfN (dLst dA0)))) (bSeq (bRaise "NoTruth" ["rows"] (dAc (dRow (cCompT [7] (gN 7) (iSeq (dVar 4)) (nXL (xCut (dVar 7) oNone (oSome (dAdd (dVar 2) (dC (.int 1)))))))) dA0)) bNil) bNil) (bSeq (bRet (dB kTuple (dAc (dVar 5) dA0))) bNil))))))
def u_p_known_k15 : List Ar → R (Rs × List Sl) := runB 8 3 b_p_known_k15
theorem sc_p_known : FnScope ["net", "trials", "lies", "bits", "rows", "stand", "make", "row"] ["net", "trials", "lies"] (defScope (top 23)) := ⟨rfl, rfl, rfl, by decide +kernel, rfl, by decide +kernel, by decide +kernel⟩
theorem fo_p_known {P : Program} {w : World} {K : PySem.W.Frag} {mg : Str → Option Value} {base : Heap} (E : Env K mg) {f : Addr} {fd : FuncData} (F : FunD K "known" "known" (defArgs (top 23)) (defBody (top 23)) (defScope (top 23)) [V.int 0] [] f fd) : FnOk P w K mg base (L2N.CX P w) (3 + 1) f fd ["net", "trials", "lies"] (spU K mg u_p_known_k15) := by
  refine fn_u (N := ["net", "trials", "lies", "bits", "rows", "stand", "make", "row"]) (ps := ["net", "trials", "lies"]) (k := 3) F sc_p_known (b := b_p_known_k15) (by decide) fun X W h => ?_
  have C := h.cf
  have hb_range : X.mg "range" = none := by rw [h.mg]; exact E.b_range
  have hb_len : X.mg "len" = none := by rw [h.mg]; exact E.b_len
  have hb_enumerate : X.mg "enumerate" = none := by rw [h.mg]; exact E.b_enumerate
  have hb_tuple : X.mg "tuple" = none := by rw [h.mg]; exact E.b_tuple
  have c_p_check_trials := (ok_p_check_trials (P := P) (w := w) (base := base) E).u h (by omega)
  have c_p_bits_of := (ok_p_bits_of (P := P) (w := w) (base := base) E).u h (by omega)
  have c_p_places_against := (ok_p_places_against (P := P) (w := w) (base := base) E).u h (by omega)
  have hX : XAll X.K X.mg ["NoTrial", "NoTruth"] ["HuntError", "NoBook", "NoMake", "NoName", "NoNet", "NoOrder", "NoPlan", "NoRow", "NoText", "NoTrial", "NoTruth", "NothingTold", "TooGreat", "ValueError"] ["HuntError"] ["place", "rows"] := by rw [h.K, h.mg]; exact E.x_all
  have m_NoTruth := xm_NoTruth E h (by omega)
  have n0 : (["net", "trials", "lies", "bits", "rows", "stand", "make", "row"] : List Str)[0]? = some ("net" : Str) := rfl
  have v0 : visB (defScope (top 23)) "net" = true := by decide +kernel
  have s0 : Sto X (defScope (top 23)) "net" := sto_c h.fn (by decide +kernel)
  have n1 : (["net", "trials", "lies", "bits", "rows", "stand", "make", "row"] : List Str)[1]? = some ("trials" : Str) := rfl
  have v1 : visB (defScope (top 23)) "trials" = true := by decide +kernel
  have s1 : Sto X (defScope (top 23)) "trials" := sto_c h.fn (by decide +kernel)
  have n2 : (["net", "trials", "lies", "bits", "rows", "stand", "make", "row"] : List Str)[2]? = some ("lies" : Str) := rfl
  have v2 : visB (defScope (top 23)) "lies" = true := by decide +kernel
  have s2 : Sto X (defScope (top 23)) "lies" := sto_c h.fn (by decide +kernel)
  have n3 : (["net", "trials", "lies", "bits", "rows", "stand", "make", "row"] : List Str)[3]? = some ("bits" : Str) := rfl
  have v3 : visB (defScope (top 23)) "bits" = true := by decide +kernel
  have s3 : Sto X (defScope (top 23)) "bits" := sto_c h.fn (by decide +kernel)
  have n4 : (["net", "trials", "lies", "bits", "rows", "stand", "make", "row"] : List Str)[4]? = some ("rows" : Str) := rfl
  have v4 : visB (defScope (top 23)) "rows" = true := by decide +kernel
  have s4 : Sto X (defScope (top 23)) "rows" := sto_c h.fn (by decide +kernel)
  have n5 : (["net", "trials", "lies", "bits", "rows", "stand", "make", "row"] : List Str)[5]? = some ("stand" : Str) := rfl
  have v5 : visB (defScope (top 23)) "stand" = true := by decide +kernel
  have s5 : Sto X (defScope (top 23)) "stand" := sto_c h.fn (by decide +kernel)
  have n6 : (["net", "trials", "lies", "bits", "rows", "stand", "make", "row"] : List Str)[6]? = some ("make" : Str) := rfl
  have n7 : (["net", "trials", "lies", "bits", "rows", "stand", "make", "row"] : List Str)[7]? = some ("row" : Str) := rfl
  unfold b_p_known_k15
  exact (cs_cons (c1_exprX (cx_call C.toCf0 c_p_check_trials (by decide +kernel) (fun _ _ => .nil) (ca_cons (ce_var C.toCf0 0 n0 (by decide +kernel)) (ca_cons (ce_var C.toCf0 1 n1 (by decide +kernel)) ca_nil)))) (cs_cons (c1_set C.toCf0 3 n3 s3 (ce_x (cx_call C.toCf0 c_p_bits_of (by decide +kernel) (fun _ _ => .nil) (ca_cons (ce_var C.toCf0 0 n0 (by decide +kernel)) ca_nil)))) (cs_cons (c1_lcD C rfl 4 n4 (by decide +kernel) (CompU.mk (own := [("make", 6)]) (ci_range1 C.toCf0 (by decide +kernel) hb_range (ce_len C.toCf0 (by decide +kernel) hb_len (ca_cons (ce_var C.toCf0 0 n0 (by decide +kernel)) ca_nil))) (by decide +kernel) (fun _ _ _ _ _ => (cg_name (Cf.blk C).toCf0 6 n6 (sto_l (by decide +kernel)))) (fun _ _ _ _ _ => cts_nil) (fun _ _ _ _ _ => (ce_frz (ce_x (cx_call (Cf.blk C).toCf0 c_p_places_against.blk (by decide +kernel) (fun _ _ => .nil) (ca_cons (ce_var (Cf.blk C).toCf0 3 n3 (by decide +kernel)) (ca_cons (ce_var (Cf.blk C).toCf0 1 n1 (by decide +kernel)) (ca_cons (ce_var (Cf.blk C).toCf0 6 n6 (by decide +kernel)) ca_nil))))))) (by decide) (fun _ => rfl))) (cs_cons (c1_lcD C rfl 5 n5 (by decide +kernel) (CompU.mk (own := [("make", 6), ("row", 7)]) (ci_enum C.toCf0 (by decide +kernel) hb_enumerate (ce_var C.toCf0 4 n4 (by decide +kernel))) (by decide +kernel) (fun _ _ _ _ _ => (cg_tup2 (Cf.blk C) (cg_name (Cf.blk C).toCf0 6 n6 (sto_l (by decide +kernel))) (cg_name (Cf.blk C).toCf0 7 n7 (sto_l (by decide +kernel))))) (fun _ _ _ _ _ => (cts_one (ct_cmp (ce_le (ce_len (Cf.blk C).toCf0 (by decide +kernel) hb_len (ca_cons (ce_var (Cf.blk C).toCf0 7 n7 (by decide +kernel)) ca_nil)) (ce_var (Cf.blk C).toCf0 2 n2 (by decide +kernel)))))) (fun _ _ _ _ _ => (ce_frz (ce_tup (ca_cons (ce_frz (ce_var (Cf.blk C).toCf0 6 n6 (by decide +kernel))) (ca_cons (ce_len (Cf.blk C).toCf0 (by decide +kernel) hb_len (ca_cons (ce_var (Cf.blk C).toCf0 7 n7 (by decide +kernel)) ca_nil)) ca_nil))))) (by decide) (fun _ => rfl))) (cs_cons (c1_if (ct_cmp (ce_eq C.toCf0 (ce_var C.toCf0 5 n5 (by decide +kernel)) (ce_ofN (cn_lst ca_nil)))) (cs_cons (c1_raise C hX m_NoTruth (by decide +kernel) (by decide +kernel) (ca_cons (ce_row (cc_lcT C (CompT.mk (own := [("row", 7)]) (ci_seq (ce_var C.toCf0 4 n4 (by decide +kernel))) (by decide +kernel) (fun _ _ _ _ _ => (cg_name (Cf.blk C).toCf0 7 n7 (sto_l (by decide +kernel)))) (fun _ _ _ _ _ => (cn_xl (cx_cut (ce_var (Cf.blk C).toCf0 7 n7 (by decide +kernel)) co_none (co_some (ce_add (ce_var (Cf.blk C).toCf0 2 n2 (by decide +kernel)) ce_int))))) (by decide) (fun _ => rfl)))) ca_nil)) cs_nil) cs_nil) (cs_cons (c1_ret (ce_tuple C.toCf0 (by decide +kernel) hb_tuple (ca_cons (ce_var C.toCf0 5 n5 (by decide +kernel)) ca_nil))) cs_nil))))))
theorem ok_p_known_d1 {P : Program} {w : World} {K : PySem.W.Frag} {mg : Str → Option Value} {base : Heap} (E : Env K mg) : Gv P w K mg base (3 + 1) "known" [V.int 0] (spU K mg u_p_known_k15) := by
  obtain ⟨f, fd, F, hmg⟩ := E.d_p_known
  obtain ⟨ds, hv, hb⟩ := F.binds1 (ps := ["net", "trials", "lies"]) 2 0 (by simp) rfl (fun T kV doc pm an cdv ct us its h1 h2 => match us, its, h1, h2 with | [_, _], [_], _, _ => ⟨_, rfl, rfl⟩)
  exact Gv.of F hmg (fo_p_known E F) hb hv
theorem ok_p_known {P : Program} {w : World} {K : PySem.W.Frag} {mg : Str → Option Value} {base : Heap} (E : Env K mg) : Gv P w K mg base (3 + 1) "known" [] (spU K mg u_p_known_k15) := by
  obtain ⟨f, fd, F, hmg⟩ := E.d_p_known
  obtain ⟨ds, hv, hb⟩ := F.binds1 (ps := ["net", "trials", "lies"]) 3 1 (by simp) rfl (fun T kV doc pm an cdv ct us its h1 h2 => match us, its, h1, h2 with | [_, _, _], [_], _, _ => ⟨_, rfl, rfl⟩)
  exact Gv.of F hmg (fo_p_known E F) hb hv
def b_qis_alone : DS := (bSeq (bSet 2 (dOfN (dLst (dAc (dIsx ["NoTrial", "NoTruth"] ["NoNet"] (dVar 0)) (dAc (dIsx ["NoTrial", "NoTruth"] ["NoOrder"] (dVar 0)) (dAc (dIsx ["NoTrial", "NoTruth"] ["NoMake"] (dVar 0)) (dAc (dIsx ["NoTrial", "NoTruth"] ["NoTrial"] (dVar 0)) dA0))))))) (bSeq (bSet 2 (dOfN (dCat (dVar 2) (dOfN (dLst (dAc (dIsx ["NoTrial", "NoTruth"] ["NoTruth"] (dVar 0)) (dAc (dIsx ["NoTrial", "NoTruth"] ["NoPlan"] (dVar 0)) (dAc (dIsx ["NoTrial", "NoTruth"] ["NoBook"] (dVar 0)) (dAc (dIsx ["NoTrial", "NoTruth"] ["TooGreat"] (dVar 0)) dA0))))))))) (bSeq (bSet 2 (dOfN (dCat (dVar 2) (dOfN (dLst (dAc (dIsx ["NoTrial", "NoTruth"] ["NoText"] (dVar 0)) (dAc (dIsx ["NoTrial", "NoTruth"] ["NoName"] (dVar 0)) (dAc (dIsx ["NoTrial", "NoTruth"] ["NothingTold"] (dVar 0)) (dAc (dIsx ["NoTrial", "NoTruth"] ["NoRow"] (dVar 0)) dA0))))))))) (bSeq (bRet (dAnd (dIsx ["NoTrial", "NoTruth"] ["HuntError"] (dVar 0)) (dAnd (dIsx ["NoTrial", "NoTruth"] ["ValueError"] (dVar 0)) (dAnd (dVar 1) (dCmp kEq (dCnt (dVar 2) (dC (.bool true))) (dC (.int 1))))))) bNil))))
def u_qis_alone : List Ar → R (Rs × List Sl) := runB 3 2 b_qis_alone
theorem sc_qis_alone : FnScope ["_law_e", "_law_own", "_law_some"] ["_law_e", "_law_own"] (defScope (top 32)) := ⟨rfl, rfl, rfl, by decide +kernel, rfl, by decide +kernel, by decide +kernel⟩
theorem foq_qis_alone {P : Program} {w : World} {K : PySem.W.Frag} {mg : Str → Option Value} {base : Heap} (E : Env K mg) {f : Addr} {fd : FuncData} (F : FunD K "_law_is_alone" "_law_is_alone" (defArgs (top 32)) (defBody (top 32)) (defScope (top 32)) [] [] f fd) : FnQ P w K mg base (0 + 1) f fd ["_law_e", "_law_own"] (spU K mg u_qis_alone) := by
  refine fn_uQ (N := ["_law_e", "_law_own", "_law_some"]) (ps := ["_law_e", "_law_own"]) (k := 0) F sc_qis_alone (b := b_qis_alone) (by decide) fun X W h => ?_
  have C := h.cf
  have hb_isinstance : X.mg "isinstance" = none := by rw [h.mg]; exact E.b_isinstance
  have hb_ValueError : X.mg "ValueError" = none := by rw [h.mg]; exact E.b_ValueError
  have hX : XAll X.K X.mg ["NoTrial", "NoTruth"] ["HuntError", "NoBook", "NoMake", "NoName", "NoNet", "NoOrder", "NoPlan", "NoRow", "NoText", "NoTrial", "NoTruth", "NothingTold", "TooGreat", "ValueError"] ["HuntError"] ["place", "rows"] := by rw [h.K, h.mg]; exact E.x_all
  have n0 : (["_law_e", "_law_own", "_law_some"] : List Str)[0]? = some ("_law_e" : Str) := rfl
  have v0 : visB (defScope (top 32)) "_law_e" = true := by decide +kernel
  have s0 : Sto X (defScope (top 32)) "_law_e" := sto_c h.fn (by decide +kernel)
  have n1 : (["_law_e", "_law_own", "_law_some"] : List Str)[1]? = some ("_law_own" : Str) := rfl
  have v1 : visB (defScope (top 32)) "_law_own" = true := by decide +kernel
  have s1 : Sto X (defScope (top 32)) "_law_own" := sto_c h.fn (by decide +kernel)
  have n2 : (["_law_e", "_law_own", "_law_some"] : List Str)[2]? = some ("_law_some" : Str) := rfl
  have v2 : visB (defScope (top 32)) "_law_some" = true := by decide +kernel
  have s2 : Sto X (defScope (top 32)) "_law_some" := sto_c h.fn (by decide +kernel)
  unfold b_qis_alone
  exact (cs_cons (c1_set C 2 n2 s2 (ce_ofN (cn_lst (ca_cons (ce_isx C hX "NoNet" (by decide +kernel) hb_isinstance (by decide +kernel) (by decide +kernel) (fun z => absurd z (by decide +kernel)) (ce_var C 0 n0 (by decide +kernel))) (ca_cons (ce_isx C hX "NoOrder" (by decide +kernel) hb_isinstance (by decide +kernel) (by decide +kernel) (fun z => absurd z (by decide +kernel)) (ce_var C 0 n0 (by decide +kernel))) (ca_cons (ce_isx C hX "NoMake" (by decide +kernel) hb_isinstance (by decide +kernel) (by decide +kernel) (fun z => absurd z (by decide +kernel)) (ce_var C 0 n0 (by decide +kernel))) (ca_cons (ce_isx C hX "NoTrial" (by decide +kernel) hb_isinstance (by decide +kernel) (by decide +kernel) (fun z => absurd z (by decide +kernel)) (ce_var C 0 n0 (by decide +kernel))) ca_nil))))))) (cs_cons (c1_set C 2 n2 s2 (ce_ofN (cn_cat (ce_var C 2 n2 (by decide +kernel)) (ce_ofN (cn_lst (ca_cons (ce_isx C hX "NoTruth" (by decide +kernel) hb_isinstance (by decide +kernel) (by decide +kernel) (fun z => absurd z (by decide +kernel)) (ce_var C 0 n0 (by decide +kernel))) (ca_cons (ce_isx C hX "NoPlan" (by decide +kernel) hb_isinstance (by decide +kernel) (by decide +kernel) (fun z => absurd z (by decide +kernel)) (ce_var C 0 n0 (by decide +kernel))) (ca_cons (ce_isx C hX "NoBook" (by decide +kernel) hb_isinstance (by decide +kernel) (by decide +kernel) (fun z => absurd z (by decide +kernel)) (ce_var C 0 n0 (by decide +kernel))) (ca_cons (ce_isx C hX "TooGreat" (by decide +kernel) hb_isinstance (by decide +kernel) (by decide +kernel) (fun z => absurd z (by decide +kernel)) (ce_var C 0 n0 (by decide +kernel))) ca_nil))))))))) (cs_cons (c1_set C 2 n2 s2 (ce_ofN (cn_cat (ce_var C 2 n2 (by decide +kernel)) (ce_ofN (cn_lst (ca_cons (ce_isx C hX "NoText" (by decide +kernel) hb_isinstance (by decide +kernel) (by decide +kernel) (fun z => absurd z (by decide +kernel)) (ce_var C 0 n0 (by decide +kernel))) (ca_cons (ce_isx C hX "NoName" (by decide +kernel) hb_isinstance (by decide +kernel) (by decide +kernel) (fun z => absurd z (by decide +kernel)) (ce_var C 0 n0 (by decide +kernel))) (ca_cons (ce_isx C hX "NothingTold" (by decide +kernel) hb_isinstance (by decide +kernel) (by decide +kernel) (fun z => absurd z (by decide +kernel)) (ce_var C 0 n0 (by decide +kernel))) (ca_cons (ce_isx C hX "NoRow" (by decide +kernel) hb_isinstance (by decide +kernel) (by decide +kernel) (fun z => absurd z (by decide +kernel)) (ce_var C 0 n0 (by decide +kernel))) ca_nil))))))))) (cs_cons (c1_ret (ce_and (ce_isx C hX "HuntError" (by decide +kernel) hb_isinstance (by decide +kernel) (by decide +kernel) (fun z => absurd z (by decide +kernel)) (ce_var C 0 n0 (by decide +kernel))) (ce_and (ce_isx C hX "ValueError" (by decide +kernel) hb_isinstance (by decide +kernel) (by decide +kernel) (fun _ => hb_ValueError) (ce_var C 0 n0 (by decide +kernel))) (ce_and (ce_var C 1 n1 (by decide +kernel)) (ce_one (ce_eq C (ce_cnt (ce_var C 2 n2 (by decide +kernel)) ce_bool) ce_int)))))) cs_nil))))
theorem okq_qis_alone {P : Program} {w : World} {K : PySem.W.Frag} {mg : Str → Option Value} {base : Heap} (E : Env K mg) : GvQ P w K mg base (0 + 1) "_law_is_alone" [] (spU K mg u_qis_alone) := by
  obtain ⟨f, fd, F, hmg⟩ := E.d_qis_alone
  exact ⟨f, fd, _, [], foq_qis_alone E F, hmg, F.kp, F.bindsN fun _ _ _ _ _ _ us hl => match us, hl with | [_, _], _ => rfl, .nil⟩
def b_qtold_k15 : DS := (bSeq (bSetX 4 (xE (dC .none))) (bSeq (bTry ["NoTrial", "NoTruth"] 5 "HuntError" (bSeq (bIf (dTst (dVar 3)) (bSeq (bSetX 4 (xCall u_p_known_k15 [PyData.int 0] (dAc (dVar 0) (dAc (dVar 1) dA0)))) bNil) (bSeq (bSetX 4 (xCall u_p_known_k15 [] (dAc (dVar 0) (dAc (dVar 1) (dAc (dVar 2) dA0))))) bNil)) bNil) (bSeq (bSetX 4 (xC (nL (dLst (dAc (eX (xCall u_qis_alone [] (dAc (dVar 5) (dAc (dIsx ["NoTrial", "NoTruth"] ["NoTruth"] (dVar 5)) dA0)))) (dAc (dC .none) dA0)))))) (bSeq (bIf (dTst (dIxB (dVar 4) (dC (.int 0)))) (bSeq (bPut 4 (dAtt ["NoTrial", "NoTruth"] "rows" (dVar 5)) (dC (.int 1))) bNil) bNil) bNil))) (bSeq (bRetOD 4) bNil)))
def u_qtold_k15 : List Ar → R (Rs × List Sl) := unlR (runB 6 4 b_qtold_k15)
theorem sc_qtold : FnScope ["_law_net_here", "_law_trials_here", "_law_lies", "_law_is_left_out", "_law_told_here", "_law_e"] ["_law_net_here", "_law_trials_here", "_law_lies", "_law_is_left_out"] (defScope (top 34)) := ⟨rfl, rfl, rfl, by decide +kernel, rfl, by decide +kernel, by decide +kernel⟩
theorem fo_qtold {P : Program} {w : World} {K : PySem.W.Frag} {mg : Str → Option Value} {base : Heap} (E : Env K mg) {f : Addr} {fd : FuncData} (F : FunD K "_law_told" "_law_told" (defArgs (top 34)) (defBody (top 34)) (defScope (top 34)) [] [] f fd) : FnOk P w K mg base (L2N.CX P w) (4 + 1) f fd ["_law_net_here", "_law_trials_here", "_law_lies", "_law_is_left_out"] (spU K mg u_qtold_k15) := by
  refine FnOk.imp (fn_u (N := ["_law_net_here", "_law_trials_here", "_law_lies", "_law_is_left_out", "_law_told_here", "_law_e"]) (ps := ["_law_net_here", "_law_trials_here", "_law_lies", "_law_is_left_out"]) (k := 4) F sc_qtold (b := b_qtold_k15) (by decide) fun X W h => ?_) (fun vs H Q E z => unl_sp vs H Q E z)
  have C := h.cf
  have hb_isinstance : X.mg "isinstance" = none := by rw [h.mg]; exact E.b_isinstance
  have c_p_known_d1 := (ok_p_known_d1 (P := P) (w := w) (base := base) E).u h (by omega)
  have c_p_known := (ok_p_known (P := P) (w := w) (base := base) E).u h (by omega)
  have hX : XAll X.K X.mg ["NoTrial", "NoTruth"] ["HuntError", "NoBook", "NoMake", "NoName", "NoNet", "NoOrder", "NoPlan", "NoRow", "NoText", "NoTrial", "NoTruth", "NothingTold", "TooGreat", "ValueError"] ["HuntError"] ["place", "rows"] := by rw [h.K, h.mg]; exact E.x_all
  have q_qis_alone := (okq_qis_alone (P := P) (w := w) (base := base) E).u h (by omega)
  have n0 : (["_law_net_here", "_law_trials_here", "_law_lies", "_law_is_left_out", "_law_told_here", "_law_e"] : List Str)[0]? = some ("_law_net_here" : Str) := rfl
  have v0 : visB (defScope (top 34)) "_law_net_here" = true := by decide +kernel
  have s0 : Sto X (defScope (top 34)) "_law_net_here" := sto_c h.fn (by decide +kernel)
  have n1 : (["_law_net_here", "_law_trials_here", "_law_lies", "_law_is_left_out", "_law_told_here", "_law_e"] : List Str)[1]? = some ("_law_trials_here" : Str) := rfl
  have v1 : visB (defScope (top 34)) "_law_trials_here" = true := by decide +kernel
  have s1 : Sto X (defScope (top 34)) "_law_trials_here" := sto_c h.fn (by decide +kernel)
  have n2 : (["_law_net_here", "_law_trials_here", "_law_lies", "_law_is_left_out", "_law_told_here", "_law_e"] : List Str)[2]? = some ("_law_lies" : Str) := rfl
  have v2 : visB (defScope (top 34)) "_law_lies" = true := by decide +kernel
  have s2 : Sto X (defScope (top 34)) "_law_lies" := sto_c h.fn (by decide +kernel)
  have n3 : (["_law_net_here", "_law_trials_here", "_law_lies", "_law_is_left_out", "_law_told_here", "_law_e"] : List Str)[3]? = some ("_law_is_left_out" : Str) := rfl
  have v3 : visB (defScope (top 34)) "_law_is_left_out" = true := by decide +kernel
  have s3 : Sto X (defScope (top 34)) "_law_is_left_out" := sto_c h.fn (by decide +kernel)
  have n4 : (["_law_net_here", "_law_trials_here", "_law_lies", "_law_is_left_out", "_law_told_here", "_law_e"] : List Str)[4]? = some ("_law_told_here" : Str) := rfl
  have v4 : visB (defScope (top 34)) "_law_told_here" = true := by decide +kernel
  have s4 : Sto X (defScope (top 34)) "_law_told_here" := sto_c h.fn (by decide +kernel)
  have n5 : (["_law_net_here", "_law_trials_here", "_law_lies", "_law_is_left_out", "_law_told_here", "_law_e"] : List Str)[5]? = some ("_law_e" : Str) := rfl
  have v5 : visB (defScope (top 34)) "_law_e" = true := by decide +kernel
  have s5 : Sto X (defScope (top 34)) "_law_e" := sto_c h.fn (by decide +kernel)
  unfold b_qtold_k15
  exact (cs_cons (c1_setX C.toCf0 4 n4 s4 (cx_e ce_none)) (cs_cons (c1_try C hX 5 h.stk h.frm n5 (by decide +kernel) (by decide +kernel) (by decide +kernel) (fun pn xe W1 C => (cs_cons (c1_if (ct_of (ce_var C.toCf0 3 n3 (by decide +kernel))) (cs_cons (c1_setX C.toCf0 4 n4 s4 (cx_call C.toCf0 c_p_known_d1.tr (by decide +kernel) (fun _ _ => (.cons (.int _) .nil)) (ca_cons (ce_var C.toCf0 0 n0 (by decide +kernel)) (ca_cons (ce_var C.toCf0 1 n1 (by decide +kernel)) ca_nil)))) cs_nil) (cs_cons (c1_setX C.toCf0 4 n4 s4 (cx_call C.toCf0 c_p_known.tr (by decide +kernel) (fun _ _ => .nil) (ca_cons (ce_var C.toCf0 0 n0 (by decide +kernel)) (ca_cons (ce_var C.toCf0 1 n1 (by decide +kernel)) (ca_cons (ce_var C.toCf0 2 n2 (by decide +kernel)) ca_nil))))) cs_nil)) cs_nil)) (fun xa pn C => (cs_cons (c1_setX C 4 n4 s4 (cx_c (cc_l (cn_lst (ca_cons (ce_x (cx_callQ C (q_qis_alone.suite xa pn) (by decide +kernel) (fun _ _ => .nil) (ca_cons (ce_var C 5 n5 (by decide +kernel)) (ca_cons (ce_isx C hX "NoTruth" (by decide +kernel) hb_isinstance (by decide +kernel) (by decide +kernel) (fun z => absurd z (by decide +kernel)) (ce_var C 5 n5 (by decide +kernel))) ca_nil)))) (ca_cons ce_none ca_nil)))))) (cs_cons (c1_if (ct_of (ce_ixB C (ce_var C 4 n4 (by decide +kernel)) ce_int)) (cs_cons (c1_put C 4 n4 v4 (ce_att C hX (n := "rows") (by decide +kernel) (ce_var C 5 n5 (by decide +kernel))) ce_int) cs_nil) cs_nil) cs_nil)))) (cs_cons (c1_retOD C.toCf0 4 n4 (by decide +kernel)) cs_nil)))
theorem ok_qtold {P : Program} {w : World} {K : PySem.W.Frag} {mg : Str → Option Value} {base : Heap} (E : Env K mg) : Gv P w K mg base (4 + 1) "_law_told" [] (spU K mg u_qtold_k15) := by
  obtain ⟨f, fd, F, hmg⟩ := E.d_qtold
  exact Gv.of F hmg (fo_qtold E F) (F.bindsN fun _ _ _ _ _ _ us hl => match us, hl with | [_, _, _, _], _ => rfl) .nil
theorem sc_qwhole : FnScope ["_law_found"] ["_law_found"] (defScope (top 31)) := ⟨rfl, rfl, rfl, by decide +kernel, rfl, by decide +kernel, by decide +kernel⟩
theorem fo_qwhole {P : Program} {w : World} {K : PySem.W.Frag} {mg : Str → Option Value} {base : Heap} (E : Env K mg) {f : Addr} {fd : FuncData} (F : FunD K "_law_whole" "_law_whole" (defArgs (top 31)) (defBody (top 31)) (defScope (top 31)) [] [] f fd) : FnOk P w K mg base (L2N.CX P w) (0 + 1) f fd ["_law_found"] (spU K mg u_qwhole) := by
  refine fn_u (N := ["_law_found"]) (ps := ["_law_found"]) (k := 0) F sc_qwhole (b := b_qwhole) (by decide) fun X W h => ?_
  have C := h.cf
  have hb_isinstance : X.mg "isinstance" = none := by rw [h.mg]; exact E.b_isinstance
  have hb_int : X.mg "int" = none := by rw [h.mg]; exact E.b_int
  have hb_bool : X.mg "bool" = none := by rw [h.mg]; exact E.b_bool
  have n0 : (["_law_found"] : List Str)[0]? = some ("_law_found" : Str) := rfl
  have v0 : visB (defScope (top 31)) "_law_found" = true := by decide +kernel
  have s0 : Sto X (defScope (top 31)) "_law_found" := sto_c h.fn (by decide +kernel)
  unfold b_qwhole
  exact (cs_cons (c1_ret (ce_and (ce_isi C.toCf0 .int (by decide +kernel) hb_isinstance (by decide +kernel) hb_int rfl (ce_var C.toCf0 0 n0 (by decide +kernel))) (ce_one (ce_not (ce_isi C.toCf0 .bool (by decide +kernel) hb_isinstance (by decide +kernel) hb_bool rfl (ce_var C.toCf0 0 n0 (by decide +kernel))))))) cs_nil)
theorem ok_qwhole {P : Program} {w : World} {K : PySem.W.Frag} {mg : Str → Option Value} {base : Heap} (E : Env K mg) : Gv P w K mg base (0 + 1) "_law_whole" [] (spU K mg u_qwhole) := by
  obtain ⟨f, fd, F, hmg⟩ := E.d_qwhole
  exact Gv.of F hmg (fo_qwhole E F) (F.bindsN fun _ _ _ _ _ _ us hl => match us, hl with | [_], _ => rfl) .nil
def b_qis_rows : DS := (bSeq (bIf (dTnot (dTst (dIsi [.list] (dVar 0)))) (bSeq (bRet (dC (.bool false))) bNil) bNil) (bSeq (bFor [1] (gN 1) (iSeq (dVar 0)) (bSeq (bIf (dTor (dTnot (dTst (dIsi [.list] (dVar 1)))) (dTst (dCmp kNe (dOfN (nComp [2] (gN 2) (iSeq (dVar 1)) (dTnot (dTst (eX (xCall u_qwhole [] (dAc (dVar 2) dA0))))) (dFrz (dVar 2)))) (dOfN (dLst dA0))))) (bSeq (bRet (dC (.bool false))) bNil) bNil) bNil)) (bSeq (bRet (dC (.bool true))) bNil)))
def u_qis_rows : List Ar → R (Rs × List Sl) := runB 3 1 b_qis_rows
theorem sc_qis_rows : FnScope ["_law_rows", "_law_row", "_law_place"] ["_law_rows"] (defScope (top 35)) := ⟨rfl, rfl, rfl, by decide +kernel, rfl, by decide +kernel, by decide +kernel⟩
theorem fo_qis_rows {P : Program} {w : World} {K : PySem.W.Frag} {mg : Str → Option Value} {base : Heap} (E : Env K mg) {f : Addr} {fd : FuncData} (F : FunD K "_law_is_rows" "_law_is_rows" (defArgs (top 35)) (defBody (top 35)) (defScope (top 35)) [] [] f fd) : FnOk P w K mg base (L2N.CX P w) (1 + 1) f fd ["_law_rows"] (spU K mg u_qis_rows) := by
  refine fn_u (N := ["_law_rows", "_law_row", "_law_place"]) (ps := ["_law_rows"]) (k := 1) F sc_qis_rows (b := b_qis_rows) (by decide) fun X W h => ?_
  have C := h.cf
  have hb_isinstance : X.mg "isinstance" = none := by rw [h.mg]; exact E.b_isinstance
  have hb_list : X.mg "list" = none := by rw [h.mg]; exact E.b_list
  have c_qwhole := (ok_qwhole (P := P) (w := w) (base := base) E).u h (by omega)
  have n0 : (["_law_rows", "_law_row", "_law_place"] : List Str)[0]? = some ("_law_rows" : Str) := rfl
  have v0 : visB (defScope (top 35)) "_law_rows" = true := by decide +kernel
  have s0 : Sto X (defScope (top 35)) "_law_rows" := sto_c h.fn (by decide +kernel)
  have n1 : (["_law_rows", "_law_row", "_law_place"] : List Str)[1]? = some ("_law_row" : Str) := rfl
  have v1 : visB (defScope (top 35)) "_law_row" = true := by decide +kernel
  have s1 : Sto X (defScope (top 35)) "_law_row" := sto_c h.fn (by decide +kernel)
  have n2 : (["_law_rows", "_law_row", "_law_place"] : List Str)[2]? = some ("_law_place" : Str) := rfl
  unfold b_qis_rows
  exact (cs_cons (c1_if (ct_not (ct_of (ce_isi C.toCf0 .list (by decide +kernel) hb_isinstance (by decide +kernel) hb_list rfl (ce_var C.toCf0 0 n0 (by decide +kernel))))) (cs_cons (c1_ret ce_bool) cs_nil) cs_nil) (cs_cons (c1_for C [1] (ci_seq (ce_var C.toCf0 0 n0 (by decide +kernel))) (cg_name C.toCf0 1 n1 s1) (cs_cons (c1_if (ct_w (cw_or (ct_not (ct_of (ce_isi C.toCf0 .list (by decide +kernel) hb_isinstance (by decide +kernel) hb_list rfl (ce_var C.toCf0 1 n1 (by decide +kernel))))) (cw_or1 (ct_cmp (ce_ne C.toCf0 (ce_ofN (cn_comp C (CompU.mk (own := [("_law_place", 2)]) (ci_seq (ce_var C.toCf0 1 n1 (by decide +kernel))) (by decide +kernel) (fun _ _ _ _ _ => (cg_name (Cf.blk C).toCf0 2 n2 (sto_l (by decide +kernel)))) (fun _ _ _ _ _ => (cts_one (ct_not (ct_of (ce_x (cx_call (Cf.blk C).toCf0 c_qwhole.blk (by decide +kernel) (fun _ _ => .nil) (ca_cons (ce_var (Cf.blk C).toCf0 2 n2 (by decide +kernel)) ca_nil))))))) (fun _ _ _ _ _ => (ce_frz (ce_var (Cf.blk C).toCf0 2 n2 (by decide +kernel)))) (by decide) (fun _ => rfl)))) (ce_ofN (cn_lst ca_nil))))))) (cs_cons (c1_ret ce_bool) cs_nil) cs_nil) cs_nil)) (cs_cons (c1_ret ce_bool) cs_nil)))
theorem ok_qis_rows {P : Program} {w : World} {K : PySem.W.Frag} {mg : Str → Option Value} {base : Heap} (E : Env K mg) : Gv P w K mg base (1 + 1) "_law_is_rows" [] (spU K mg u_qis_rows) := by
  obtain ⟨f, fd, F, hmg⟩ := E.d_qis_rows
  exact Gv.of F hmg (fo_qis_rows E F) (F.bindsN fun _ _ _ _ _ _ us hl => match us, hl with | [_], _ => rfl) .nil
def b_qno_trial : DS := (bSeq (bIf (dTst (dCmp (kI fun i j => decide (j < i)) (dB kLen (dAc (dVar 1) dA0)) (dC (.int 199)))) (bSeq (bRet (dC (.bool true))) bNil) bNil) (bSeq (bSetX 3 (xC (nL (dLst dA0)))) (bSeq (bFor [4] (gN 4) (iSeq (dTup (dAc (dTup (dAc (dB kLen (dAc (dVar 0) dA0)) (dAc (dC (.str "good")) dA0))) (dAc (dTup (dAc (dC (.int 0)) (dAc (dC (.str "Good")) dA0))) (dAc (dTup (dAc (dNeg (dC (.int 1))) (dAc (dC (.str "bad")) dA0))) dA0))))) (bSeq (bTry ["NoTrial", "NoTruth"] 5 "HuntError" (bSeq (bExprX (xCall u_p_known_k15 [] (dAc (dVar 0) (dAc (dOfN (dCat (dVar 1) (dOfN (dLst (dAc (dFrz (dVar 4)) dA0))))) (dAc (dVar 2) dA0))))) bNil) (bSeq (bIf (dTand (dTst (eX (xCall u_qis_alone [] (dAc (dVar 5) (dAc (dIsx ["NoTrial", "NoTruth"] ["NoTrial"] (dVar 5)) dA0))))) (dTst (dCmp kEq (dAtt ["NoTrial", "NoTruth"] "place" (dVar 5)) (dB kLen (dAc (dVar 1) dA0))))) (bSeq (bExpr (dLm 3 qAppend (dAc (dFrz (dC (.bool true))) dA0))) bNil) bNil) bNil)) bNil)) (bSeq (bRet (dCmp kEq (dVar 3) (dOfN (dLst (dAc (dC (.bool true)) (dAc (dC (.bool true)) (dAc (dC (.bool true)) dA0))))))) bNil))))
def u_qno_trial : List Ar → R (Rs × List Sl) := runB 6 3 b_qno_trial
theorem sc_qno_trial : FnScope ["_law_net_here", "_law_trials_here", "_law_lies", "_law_told_here", "_law_bad", "_law_e"] ["_law_net_here", "_law_trials_here", "_law_lies"] (defScope (top 36)) := ⟨rfl, rfl, rfl, by decide +kernel, rfl, by decide +kernel, by decide +kernel⟩
theorem fo_qno_trial {P : Program} {w : World} {K : PySem.W.Frag} {mg : Str → Option Value} {base : Heap} (E : Env K mg) {f : Addr} {fd : FuncData} (F : FunD K "_law_no_trial" "_law_no_trial" (defArgs (top 36)) (defBody (top 36)) (defScope (top 36)) [] [] f fd) : FnOk P w K mg base (L2N.CX P w) (4 + 1) f fd ["_law_net_here", "_law_trials_here", "_law_lies"] (spU K mg u_qno_trial) := by
  refine fn_u (N := ["_law_net_here", "_law_trials_here", "_law_lies", "_law_told_here", "_law_bad", "_law_e"]) (ps := ["_law_net_here", "_law_trials_here", "_law_lies"]) (k := 4) F sc_qno_trial (b := b_qno_trial) (by decide) fun X W h => ?_
  have C := h.cf
  have hb_len : X.mg "len" = none := by rw [h.mg]; exact E.b_len
  have hb_isinstance : X.mg "isinstance" = none := by rw [h.mg]; exact E.b_isinstance
  have c_p_known := (ok_p_known (P := P) (w := w) (base := base) E).u h (by omega)
  have hX : XAll X.K X.mg ["NoTrial", "NoTruth"] ["HuntError", "NoBook", "NoMake", "NoName", "NoNet", "NoOrder", "NoPlan", "NoRow", "NoText", "NoTrial", "NoTruth", "NothingTold", "TooGreat", "ValueError"] ["HuntError"] ["place", "rows"] := by rw [h.K, h.mg]; exact E.x_all
  have q_qis_alone := (okq_qis_alone (P := P) (w := w) (base := base) E).u h (by omega)
  have n0 : (["_law_net_here", "_law_trials_here", "_law_lies", "_law_told_here", "_law_bad", "_law_e"] : List Str)[0]? = some ("_law_net_here" : Str) := rfl
  have v0 : visB (defScope (top 36)) "_law_net_here" = true := by decide +kernel
  have s0 : Sto X (defScope (top 36)) "_law_net_here" := sto_c h.fn (by decide +kernel)
  have n1 : (["_law_net_here", "_law_trials_here", "_law_lies", "_law_told_here", "_law_bad", "_law_e"] : List Str)[1]? = some ("_law_trials_here" : Str) := rfl
  have v1 : visB (defScope (top 36)) "_law_trials_here" = true := by decide +kernel
  have s1 : Sto X (defScope (top 36)) "_law_trials_here" := sto_c h.fn (by decide +kernel)
  have n2 : (["_law_net_here", "_law_trials_here", "_law_lies", "_law_told_here", "_law_bad", "_law_e"] : List Str)[2]? = some ("_law_lies" : Str) := rfl
  have v2 : visB (defScope (top 36)) "_law_lies" = true := by decide +kernel
  have s2 : Sto X (defScope (top 36)) "_law_lies" := sto_c h.fn (by decide +kernel)
  have n3 : (["_law_net_here", "_law_trials_here", "_law_lies", "_law_told_here", "_law_bad", "_law_e"] : List Str)[3]? = some ("_law_told_here" : Str) := rfl
  have v3 : visB (defScope (top 36)) "_law_told_here" = true := by decide +kernel
  have s3 : Sto X (defScope (top 36)) "_law_told_here" := sto_c h.fn (by decide +kernel)
  have n4 : (["_law_net_here", "_law_trials_here", "_law_lies", "_law_told_here", "_law_bad", "_law_e"] : List Str)[4]? = some ("_law_bad" : Str) := rfl
  have v4 : visB (defScope (top 36)) "_law_bad" = true := by decide +kernel
  have s4 : Sto X (defScope (top 36)) "_law_bad" := sto_c h.fn (by decide +kernel)
  have n5 : (["_law_net_here", "_law_trials_here", "_law_lies", "_law_told_here", "_law_bad", "_law_e"] : List Str)[5]? = some ("_law_e" : Str) := rfl
  have v5 : visB (defScope (top 36)) "_law_e" = true := by decide +kernel
  have s5 : Sto X (defScope (top 36)) "_law_e" := sto_c h.fn (by decide +kernel)
  unfold b_qno_trial
  exact (cs_cons (c1_if (ct_cmp (ce_gt (ce_len C.toCf0 (by decide +kernel) hb_len (ca_cons (ce_var C.toCf0 1 n1 (by decide +kernel)) ca_nil)) ce_int)) (cs_cons (c1_ret ce_bool) cs_nil) cs_nil) (cs_cons (c1_setX C.toCf0 3 n3 s3 (cx_c (cc_l (cn_lst ca_nil)))) (cs_cons (c1_for C [4] (ci_seq (ce_tup (ca_cons (ce_tup (ca_cons (ce_len C.toCf0 (by decide +kernel) hb_len (ca_cons (ce_var C.toCf0 0 n0 (by decide +kernel)) ca_nil)) (ca_cons ce_str ca_nil))) (ca_cons (ce_tup (ca_cons ce_int (ca_cons ce_str ca_nil))) (ca_cons (ce_tup (ca_cons (ce_neg ce_int) (ca_cons ce_str ca_nil))) ca_nil))))) (cg_name C.toCf0 4 n4 s4) (cs_cons (c1_try C hX 5 h.stk h.frm n5 (by decide +kernel) (by decide +kernel) (by decide +kernel) (fun pn xe W1 C => (cs_cons (c1_exprX (cx_call C.toCf0 c_p_known.tr (by decide +kernel) (fun _ _ => .nil) (ca_cons (ce_var C.toCf0 0 n0 (by decide +kernel)) (ca_cons (ce_ofN (cn_cat (ce_var C.toCf0 1 n1 (by decide +kernel)) (ce_ofN (cn_lst (ca_cons (ce_frz (ce_var C.toCf0 4 n4 (by decide +kernel))) ca_nil))))) (ca_cons (ce_var C.toCf0 2 n2 (by decide +kernel)) ca_nil))))) cs_nil)) (fun xa pn C => (cs_cons (c1_if (ct_w (cw_and (ct_of (ce_x (cx_callQ C (q_qis_alone.suite xa pn) (by decide +kernel) (fun _ _ => .nil) (ca_cons (ce_var C 5 n5 (by decide +kernel)) (ca_cons (ce_isx C hX "NoTrial" (by decide +kernel) hb_isinstance (by decide +kernel) (by decide +kernel) (fun z => absurd z (by decide +kernel)) (ce_var C 5 n5 (by decide +kernel))) ca_nil))))) (cw_and1 (ct_cmp (ce_eq C (ce_att C hX (n := "place") (by decide +kernel) (ce_var C 5 n5 (by decide +kernel))) (ce_len C (by decide +kernel) hb_len (ca_cons (ce_var C 1 n1 (by decide +kernel)) ca_nil))))))) (cs_cons (c1_expr (ce_append C 3 n3 (by decide +kernel) ce_bool)) cs_nil) cs_nil) cs_nil))) cs_nil)) (cs_cons (c1_ret (ce_eq C.toCf0 (ce_var C.toCf0 3 n3 (by decide +kernel)) (ce_ofN (cn_lst (ca_cons ce_bool (ca_cons ce_bool (ca_cons ce_bool ca_nil))))))) cs_nil))))
theorem ok_qno_trial {P : Program} {w : World} {K : PySem.W.Frag} {mg : Str → Option Value} {base : Heap} (E : Env K mg) : Gv P w K mg base (4 + 1) "_law_no_trial" [] (spU K mg u_qno_trial) := by
  obtain ⟨f, fd, F, hmg⟩ := E.d_qno_trial
  exact Gv.of F hmg (fo_qno_trial E F) (F.bindsN fun _ _ _ _ _ _ us hl => match us, hl with | [_, _, _], _ => rfl) .nil
def b_qright : DS := (bSeq (bSetX 4 (xC (nL (dLst dA0)))) (bSeq (bFor [] (gN 5) (iRange1 (dB kLen (dAc (dVar 0) dA0))) (bSeq (bExpr (dLm 4 qAppend (dAc (dFrz (dOfN (nComp [10] (gN 10) (iRange1 (dB kLen (dAc (dVar 2) dA0))) (dTst (eX (xCall u_qspeaks [] (dAc (dVar 1) (dAc (dIxB (dVar 2) (dVar 10)) (dAc (dVar 5) dA0)))))) (dFrz (dVar 10))))) dA0))) bNil)) (bFrz 4 (bSeq (bIf (dTst (dCmp (kI fun i j => decide (i ≤ j)) (dB kMin1 (dAc (dOfN (nComp [11] (gN 11) (iSeq (dVar 4)) tYes (dFrz (dB kLen (dAc (dVar 11) dA0))))) dA0)) (dVar 3))) (bFrz 4 (bSeq (bSet 6 (dB kTuple (dAc (dOfN (nComp [5, 11] (gT2 (gN 5) (gN 11)) (iEnum (dVar 4)) (dTst (dCmp (kI fun i j => decide (i ≤ j)) (dB kLen (dAc (dVar 11) dA0)) (dVar 3))) (dFrz (dTup (dAc (dFrz (dVar 5)) (dAc (dB kLen (dAc (dVar 11) dA0)) dA0)))))) dA0))) (bSeq (bRet (dCmp kEq (eX (xCall u_qtold_k15 [] (dAc (dVar 0) (dAc (dVar 2) (dAc (dVar 3) (dAc (dC (.bool false)) dA0)))))) (dVar 6))) bNil))) bNil) (bFrz 4 (bSeq (bSet 6 (dOfN (nComp [11] (gN 11) (iSeq (dVar 4)) tYes (dFrz (eX (xCut (dVar 11) oNone (oSome (dAdd (dVar 3) (dC (.int 1)))))))))) (bSeq (bFor [7, 8, 9] (gN 7) (iRange1 (dC (.int 2))) (bSeq (bSet 8 (dOfN (dBN kList (dAc (dVar 2) dA0)))) (bSeq (bSetX 9 (xCall u_qtold_k15 [] (dAc (dVar 0) (dAc (dVar 8) (dAc (dVar 3) (dAc (dAnd (dCmp kEq (dVar 3) (dC (.int 0))) (dCmp kEq (dVar 7) (dC (.int 1)))) dA0)))))) (bSeq (bIf (tLkT 9 (dTor (dTnot (dTst (dIsi [.list] (dVar 9)))) (dTor (dTst (dCmp kNisB (dIxB (dVar 9) (dC (.int 0))) (dC (.bool true)))) (dTst (dCmp kNe (dVar 8) (dVar 2)))))) (bSeq (bRet (dC (.bool false))) bNil) bNil) (bSeq (bIf (tLkT 9 (dTor (dTnot (dTst (eX (xCall u_qis_rows [] (dAc (dIxB (dVar 9) (dC (.int 1))) dA0))))) (dTst (dCmp kNe (dIxB (dVar 9) (dC (.int 1))) (dVar 6))))) (bSeq (bRet (dC (.bool false))) bNil) bNil) (bSeq (bExpr (dAppP 9 (pIx (pIx pVar 1) 0) (rC (.int 7)))) (bSeq (bIf (tLkT 9 (dTst (dCmp kNe (eX (xCut (dIxB (dVar 9) (dC (.int 1))) (oSome (dC (.int 1))) oNone)) (eX (xCut (dVar 6) (oSome (dC (.int 1))) oNone))))) (bSeq (bRet (dC (.bool false))) bNil) bNil) (bSeq (bPopP 9 (pIx pVar 1)) bNil)))))))) (bSeq (bRetX (xCall u_qno_trial [] (dAc (dVar 0) (dAc (dVar 2) (dAc (dVar 3) dA0))))) bNil))))))))
def u_qright : List Ar → R (Rs × List Sl) := runB 12 4 b_qright
theorem sc_qright : FnScope ["_law_net_here", "_law_olds", "_law_trials_here", "_law_lies", "_law_rows", "_law_make", "_law_due", "_law_turn", "_law_handed", "_law_told_here", "_law_place", "_law_row"] ["_law_net_here", "_law_olds", "_law_trials_here", "_law_lies"] (defScope (top 38)) := ⟨rfl, rfl, rfl, by decide +kernel, rfl, by decide +kernel, by decide +kernel⟩
theorem fo_qright {P : Program} {w : World} {K : PySem.W.Frag} {mg : Str → Option Value} {base : Heap} (E : Env K mg) {f : Addr} {fd : FuncData} (F : FunD K "_law_right" "_law_right" (defArgs (top 38)) (defBody (top 38)) (defScope (top 38)) [] [] f fd) : FnOk P w K mg base (L2N.CX P w) (5 + 1) f fd ["_law_net_here", "_law_olds", "_law_trials_here", "_law_lies"] (spU K mg u_qright) := by
  refine fn_u (N := ["_law_net_here", "_law_olds", "_law_trials_here", "_law_lies", "_law_rows", "_law_make", "_law_due", "_law_turn", "_law_handed", "_law_told_here", "_law_place", "_law_row"]) (ps := ["_law_net_here", "_law_olds", "_law_trials_here", "_law_lies"]) (k := 5) F sc_qright (b := b_qright) (by decide) fun X W h => ?_
  have C := h.cf
  have hb_range : X.mg "range" = none := by rw [h.mg]; exact E.b_range
  have hb_len : X.mg "len" = none := by rw [h.mg]; exact E.b_len
  have hb_min : X.mg "min" = none := by rw [h.mg]; exact E.b_min
  have hb_tuple : X.mg "tuple" = none := by rw [h.mg]; exact E.b_tuple
  have hb_enumerate : X.mg "enumerate" = none := by rw [h.mg]; exact E.b_enumerate
  have hb_list : X.mg "list" = none := by rw [h.mg]; exact E.b_list
  have hb_isinstance : X.mg "isinstance" = none := by rw [h.mg]; exact E.b_isinstance
  have c_qspeaks := (ok_qspeaks (P := P) (w := w) (base := base) E).u h (by omega)
  have c_qtold := (ok_qtold (P := P) (w := w) (base := base) E).u h (by omega)
  have c_qis_rows := (ok_qis_rows (P := P) (w := w) (base := base) E).u h (by omega)
  have c_qno_trial := (ok_qno_trial (P := P) (w := w) (base := base) E).u h (by omega)
  have n0 : (["_law_net_here", "_law_olds", "_law_trials_here", "_law_lies", "_law_rows", "_law_make", "_law_due", "_law_turn", "_law_handed", "_law_told_here", "_law_place", "_law_row"] : List Str)[0]? = some ("_law_net_here" : Str) := rfl
  have v0 : visB (defScope (top 38)) "_law_net_here" = true := by decide +kernel
  have s0 : Sto X (defScope (top 38)) "_law_net_here" := sto_c h.fn (by decide +kernel)
  have n1 : (["_law_net_here", "_law_olds", "_law_trials_here", "_law_lies", "_law_rows", "_law_make", "_law_due", "_law_turn", "_law_handed", "_law_told_here", "_law_place", "_law_row"] : List Str)[1]? = some ("_law_olds" : Str) := rfl
  have v1 : visB (defScope (top 38)) "_law_olds" = true := by decide +kernel
  have s1 : Sto X (defScope (top 38)) "_law_olds" := sto_c h.fn (by decide +kernel)
  have n2 : (["_law_net_here", "_law_olds", "_law_trials_here", "_law_lies", "_law_rows", "_law_make", "_law_due", "_law_turn", "_law_handed", "_law_told_here", "_law_place", "_law_row"] : List Str)[2]? = some ("_law_trials_here" : Str) := rfl
  have v2 : visB (defScope (top 38)) "_law_trials_here" = true := by decide +kernel
  have s2 : Sto X (defScope (top 38)) "_law_trials_here" := sto_c h.fn (by decide +kernel)
  have n3 : (["_law_net_here", "_law_olds", "_law_trials_here", "_law_lies", "_law_rows", "_law_make", "_law_due", "_law_turn", "_law_handed", "_law_told_here", "_law_place", "_law_row"] : List Str)[3]? = some ("_law_lies" : Str) := rfl
  have v3 : visB (defScope (top 38)) "_law_lies" = true := by decide +kernel
  have s3 : Sto X (defScope (top 38)) "_law_lies" := sto_c h.fn (by decide +kernel)
  have n4 : (["_law_net_here", "_law_olds", "_law_trials_here", "_law_lies", "_law_rows", "_law_make", "_law_due", "_law_turn", "_law_handed", "_law_told_here", "_law_place", "_law_row"] : List Str)[4]? = some ("_law_rows" : Str) := rfl
  have v4 : visB (defScope (top 38)) "_law_rows" = true := by decide +kernel
  have s4 : Sto X (defScope (top 38)) "_law_rows" := sto_c h.fn (by decide +kernel)
  have n5 : (["_law_net_here", "_law_olds", "_law_trials_here", "_law_lies", "_law_rows", "_law_make", "_law_due", "_law_turn", "_law_handed", "_law_told_here", "_law_place", "_law_row"] : List Str)[5]? = some ("_law_make" : Str) := rfl
  have v5 : visB (defScope (top 38)) "_law_make" = true := by decide +kernel
  have s5 : Sto X (defScope (top 38)) "_law_make" := sto_c h.fn (by decide +kernel)
  have n6 : (["_law_net_here", "_law_olds", "_law_trials_here", "_law_lies", "_law_rows", "_law_make", "_law_due", "_law_turn", "_law_handed", "_law_told_here", "_law_place", "_law_row"] : List Str)[6]? = some ("_law_due" : Str) := rfl
  have v6 : visB (defScope (top 38)) "_law_due" = true := by decide +kernel
  have s6 : Sto X (defScope (top 38)) "_law_due" := sto_c h.fn (by decide +kernel)
  have n7 : (["_law_net_here", "_law_olds", "_law_trials_here", "_law_lies", "_law_rows", "_law_make", "_law_due", "_law_turn", "_law_handed", "_law_told_here", "_law_place", "_law_row"] : List Str)[7]? = some ("_law_turn" : Str) := rfl
  have v7 : visB (defScope (top 38)) "_law_turn" = true := by decide +kernel
  have s7 : Sto X (defScope (top 38)) "_law_turn" := sto_c h.fn (by decide +kernel)
  have n8 : (["_law_net_here", "_law_olds", "_law_trials_here", "_law_lies", "_law_rows", "_law_make", "_law_due", "_law_turn", "_law_handed", "_law_told_here", "_law_place", "_law_row"] : List Str)[8]? = some ("_law_handed" : Str) := rfl
  have v8 : visB (defScope (top 38)) "_law_handed" = true := by decide +kernel
  have s8 : Sto X (defScope (top 38)) "_law_handed" := sto_c h.fn (by decide +kernel)
  have n9 : (["_law_net_here", "_law_olds", "_law_trials_here", "_law_lies", "_law_rows", "_law_make", "_law_due", "_law_turn", "_law_handed", "_law_told_here", "_law_place", "_law_row"] : List Str)[9]? = some ("_law_told_here" : Str) := rfl
  have v9 : visB (defScope (top 38)) "_law_told_here" = true := by decide +kernel
  have s9 : Sto X (defScope (top 38)) "_law_told_here" := sto_c h.fn (by decide +kernel)
  have n10 : (["_law_net_here", "_law_olds", "_law_trials_here", "_law_lies", "_law_rows", "_law_make", "_law_due", "_law_turn", "_law_handed", "_law_told_here", "_law_place", "_law_row"] : List Str)[10]? = some ("_law_place" : Str) := rfl
  have n11 : (["_law_net_here", "_law_olds", "_law_trials_here", "_law_lies", "_law_rows", "_law_make", "_law_due", "_law_turn", "_law_handed", "_law_told_here", "_law_place", "_law_row"] : List Str)[11]? = some ("_law_row" : Str) := rfl
  unfold b_qright
  exact (cs_cons (c1_setX C.toCf0 4 n4 s4 (cx_c (cc_l (cn_lst ca_nil)))) (cs_cons (c1_for C [] (ci_range1 C.toCf0 (by decide +kernel) hb_range (ce_len C.toCf0 (by decide +kernel) hb_len (ca_cons (ce_var C.toCf0 0 n0 (by decide +kernel)) ca_nil))) (cg_name C.toCf0 5 n5 s5) (cs_cons (c1_expr (ce_append C.toCf0 4 n4 (by decide +kernel) (ce_ofN (cn_comp C (CompU.mk (own := [("_law_place", 10)]) (ci_range1 C.toCf0 (by decide +kernel) hb_range (ce_len C.toCf0 (by decide +kernel) hb_len (ca_cons (ce_var C.toCf0 2 n2 (by decide +kernel)) ca_nil))) (by decide +kernel) (fun _ _ _ _ _ => (cg_name (Cf.blk C).toCf0 10 n10 (sto_l (by decide +kernel)))) (fun _ _ _ _ _ => (cts_one (ct_of (ce_x (cx_call (Cf.blk C).toCf0 c_qspeaks.blk (by decide +kernel) (fun _ _ => .nil) (ca_cons (ce_var (Cf.blk C).toCf0 1 n1 (by decide +kernel)) (ca_cons (ce_ixB (Cf.blk C).toCf0 (ce_var (Cf.blk C).toCf0 2 n2 (by decide +kernel)) (ce_var (Cf.blk C).toCf0 10 n10 (by decide +kernel))) (ca_cons (ce_var (Cf.blk C).toCf0 5 n5 (by decide +kernel)) ca_nil)))))))) (fun _ _ _ _ _ => (ce_frz (ce_var (Cf.blk C).toCf0 10 n10 (by decide +kernel)))) (by decide) (fun _ => rfl)))))) cs_nil)) (cs_frz 4 (cs_cons (c1_if (ct_cmp (ce_le (ce_min1 C (by decide +kernel) hb_min (ca_cons (ce_ofN (cn_comp C (CompU.mk (own := [("_law_row", 11)]) (ci_seq (ce_var C.toCf0 4 n4 (by decide +kernel))) (by decide +kernel) (fun _ _ _ _ _ => (cg_name (Cf.blk C).toCf0 11 n11 (sto_l (by decide +kernel)))) (fun _ _ _ _ _ => cts_nil) (fun _ _ _ _ _ => (ce_frz (ce_len (Cf.blk C).toCf0 (by decide +kernel) hb_len (ca_cons (ce_var (Cf.blk C).toCf0 11 n11 (by decide +kernel)) ca_nil)))) (by decide) (fun _ => rfl)))) ca_nil)) (ce_var C.toCf0 3 n3 (by decide +kernel)))) (cs_frz 4 (cs_cons (c1_set C.toCf0 6 n6 s6 (ce_tuple C.toCf0 (by decide +kernel) hb_tuple (ca_cons (ce_ofN (cn_comp C (CompU.mk (own := [("_law_make", 5), ("_law_row", 11)]) (ci_enum C.toCf0 (by decide +kernel) hb_enumerate (ce_var C.toCf0 4 n4 (by decide +kernel))) (by decide +kernel) (fun _ _ _ _ _ => (cg_tup2 (Cf.blk C) (cg_name (Cf.blk C).toCf0 5 n5 (sto_l (by decide +kernel))) (cg_name (Cf.blk C).toCf0 11 n11 (sto_l (by decide +kernel))))) (fun _ _ _ _ _ => (cts_one (ct_cmp (ce_le (ce_len (Cf.blk C).toCf0 (by decide +kernel) hb_len (ca_cons (ce_var (Cf.blk C).toCf0 11 n11 (by decide +kernel)) ca_nil)) (ce_var (Cf.blk C).toCf0 3 n3 (by decide +kernel)))))) (fun _ _ _ _ _ => (ce_frz (ce_tup (ca_cons (ce_frz (ce_var (Cf.blk C).toCf0 5 n5 (by decide +kernel))) (ca_cons (ce_len (Cf.blk C).toCf0 (by decide +kernel) hb_len (ca_cons (ce_var (Cf.blk C).toCf0 11 n11 (by decide +kernel)) ca_nil)) ca_nil))))) (by decide) (fun _ => rfl)))) ca_nil))) (cs_cons (c1_ret (ce_eq C.toCf0 (ce_x (cx_call C.toCf0 c_qtold (by decide +kernel) (fun _ _ => .nil) (ca_cons (ce_var C.toCf0 0 n0 (by decide +kernel)) (ca_cons (ce_var C.toCf0 2 n2 (by decide +kernel)) (ca_cons (ce_var C.toCf0 3 n3 (by decide +kernel)) (ca_cons ce_bool ca_nil)))))) (ce_var C.toCf0 6 n6 (by decide +kernel)))) cs_nil))) cs_nil) (cs_frz 4 (cs_cons (c1_lcD C rfl 6 n6 (by decide +kernel) (CompU.mk (own := [("_law_row", 11)]) (ci_seq (ce_var C.toCf0 4 n4 (by decide +kernel))) (by decide +kernel) (fun _ _ _ _ _ => (cg_name (Cf.blk C).toCf0 11 n11 (sto_l (by decide +kernel)))) (fun _ _ _ _ _ => cts_nil) (fun _ _ _ _ _ => (ce_frz (ce_x (cx_cut (ce_var (Cf.blk C).toCf0 11 n11 (by decide +kernel)) co_none (co_some (ce_add (ce_var (Cf.blk C).toCf0 3 n3 (by decide +kernel)) ce_int)))))) (by decide) (fun _ => rfl))) (cs_cons (c1_for C [7, 8, 9] (ci_range1 C.toCf0 (by decide +kernel) hb_range ce_int) (cg_name C.toCf0 7 n7 s7) (cs_cons (c1_set C.toCf0 8 n8 s8 (ce_ofN (cn_list C.toCf0 (by decide +kernel) hb_list (ca_cons (ce_var C.toCf0 2 n2 (by decide +kernel)) ca_nil)))) (cs_cons (c1_setX C.toCf0 9 n9 s9 (cx_call C.toCf0 c_qtold (by decide +kernel) (fun _ _ => .nil) (ca_cons (ce_var C.toCf0 0 n0 (by decide +kernel)) (ca_cons (ce_var C.toCf0 8 n8 (by decide +kernel)) (ca_cons (ce_var C.toCf0 3 n3 (by decide +kernel)) (ca_cons (ce_and (ce_eq C.toCf0 (ce_var C.toCf0 3 n3 (by decide +kernel)) ce_int) (ce_one (ce_eq C.toCf0 (ce_var C.toCf0 7 n7 (by decide +kernel)) ce_int))) ca_nil)))))) (cs_cons (c1_if (ct_lk 9 (ct_w (cw_or (ct_not (ct_of (ce_isi C.toCf0 .list (by decide +kernel) hb_isinstance (by decide +kernel) hb_list rfl (ce_var C.toCf0 9 n9 (by decide +kernel))))) (cw_or (ct_cmp (ce_isnotB (ce_ixB C.toCf0 (ce_var C.toCf0 9 n9 (by decide +kernel)) ce_int) ce_bool)) (cw_or1 (ct_cmp (ce_ne C.toCf0 (ce_var C.toCf0 8 n8 (by decide +kernel)) (ce_var C.toCf0 2 n2 (by decide +kernel))))))))) (cs_cons (c1_ret ce_bool) cs_nil) cs_nil) (cs_cons (c1_if (ct_lk 9 (ct_w (cw_or (ct_not (ct_of (ce_x (cx_call C.toCf0 c_qis_rows (by decide +kernel) (fun _ _ => .nil) (ca_cons (ce_ixB C.toCf0 (ce_var C.toCf0 9 n9 (by decide +kernel)) ce_int) ca_nil))))) (cw_or1 (ct_cmp (ce_ne C.toCf0 (ce_ixB C.toCf0 (ce_var C.toCf0 9 n9 (by decide +kernel)) ce_int) (ce_var C.toCf0 6 n6 (by decide +kernel)))))))) (cs_cons (c1_ret ce_bool) cs_nil) cs_nil) (cs_cons (c1_expr (ce_appP C.toCf0 9 (pIx (pIx pVar 1) 0) (cp_ix (cp_ix (cp_var C.toCf0 9 n9 (by decide +kernel)))) (pu_c pe_int fun _ _ => .int _))) (cs_cons (c1_if (ct_lk 9 (ct_cmp (ce_ne C.toCf0 (ce_x (cx_cut (ce_ixB C.toCf0 (ce_var C.toCf0 9 n9 (by decide +kernel)) ce_int) (co_some ce_int) co_none)) (ce_x (cx_cut (ce_var C.toCf0 6 n6 (by decide +kernel)) (co_some ce_int) co_none))))) (cs_cons (c1_ret ce_bool) cs_nil) cs_nil) (cs_cons (c1_popP 9 (pIx pVar 1) (cp_ix (cp_var C.toCf0 9 n9 (by decide +kernel)))) cs_nil)))))))) (cs_cons (c1_retX (cx_call C.toCf0 c_qno_trial (by decide +kernel) (fun _ _ => .nil) (ca_cons (ce_var C.toCf0 0 n0 (by decide +kernel)) (ca_cons (ce_var C.toCf0 2 n2 (by decide +kernel)) (ca_cons (ce_var C.toCf0 3 n3 (by decide +kernel)) ca_nil))))) cs_nil))))))))
theorem ok_qright {P : Program} {w : World} {K : PySem.W.Frag} {mg : Str → Option Value} {base : Heap} (E : Env K mg) : Gv P w K mg base (5 + 1) "_law_right" [] (spU K mg u_qright) := by
  obtain ⟨f, fd, F, hmg⟩ := E.d_qright
  exact Gv.of F hmg (fo_qright E F) (F.bindsN fun _ _ _ _ _ _ us hl => match us, hl with | [_, _, _, _], _ => rfl) .nil
def b_qput_in : DS := (bSeq (bSetC 4 (nL (nComp [7] (gN 7) (iRange1 (dB kLen (dAc (dVar 1) dA0))) tYes (dFrz (dTup (dAc (dFrz (dVar 7)) (dAc (dC (.str "good")) dA0))))))) (bSeq (bIf (dTst (dCmp kEq (eX (xCallC u_qtake 0 [] (dAc (dVar 0) (dAc (dC (.int 2)) dA0)))) (dC (.int 1)))) (bSeq (bSetC 4 (nL (nComp [7] (gN 7) (iRange1 (dB kLen (dAc (dVar 1) dA0))) (dTor (dTst (dCmp kEq (dVar 7) (dC (.int 0)))) (dTst (dCmp kEq (dIxB (dVar 1) (dVar 7)) (dTup dA0)))) (dFrz (dTup (dAc (dFrz (dVar 7)) (dAc (dC (.str "good")) dA0))))))) (bSeq (bExpr (dLm 4 qAppend (dAc (dFrz (dTup (dAc (eX (xCallC u_qtake 0 [] (dAc (dVar 0) (dAc (dB kLen (dAc (dVar 1) dA0)) dA0)))) (dAc (dC (.str "bad")) dA0)))) dA0))) bNil)) bNil) (bSeq (bFor [5, 6] (gN 5) (iRange1 (dAdd (dVar 3) (dC (.int 1)))) (bFrz 4 (bSeq (bFor [6] (gN 6) (iSeq (dVar 4)) (bSeq (bIf (dTst (dCmp (kI fun i j => decide (i < j)) (dB kLen (dAc (dVar 2) dA0)) (dC (.int 200)))) (bSeq (bExpr (dLm 2 qInsert (dAc (eX (xCallC u_qtake 0 [] (dAc (dVar 0) (dAc (dAdd (dB kLen (dAc (dVar 2) dA0)) (dC (.int 1))) dA0)))) (dAc (dFrz (dVar 6)) dA0)))) bNil) bNil) bNil)) bNil))) bNil)))
def u_qput_in : List Ar → R (Rs × List Sl) := runB 8 4 (bW 2 b_qput_in)
theorem sc_qput_in : FnScope ["_law_feed_here", "_law_net_here", "_law_trials_here", "_law_lies", "_law_more", "_law_turn", "_law_trial", "_law_make"] ["_law_feed_here", "_law_net_here", "_law_trials_here", "_law_lies"] (defScope (top 37)) := ⟨rfl, rfl, rfl, by decide +kernel, rfl, by decide +kernel, by decide +kernel⟩
theorem fo_qput_in {P : Program} {w : World} {K : PySem.W.Frag} {mg : Str → Option Value} {base : Heap} (E : Env K mg) {f : Addr} {fd : FuncData} (F : FunD K "_law_put_in" "_law_put_in" (defArgs (top 37)) (defBody (top 37)) (defScope (top 37)) [] [] f fd) : FnOk P w K mg base (L2N.CX P w) (1 + 1) f fd ["_law_feed_here", "_law_net_here", "_law_trials_here", "_law_lies"] (spW K mg u_qput_in 2) := by
  refine fn_wr (N := ["_law_feed_here", "_law_net_here", "_law_trials_here", "_law_lies", "_law_more", "_law_turn", "_law_trial", "_law_make"]) (ps := ["_law_feed_here", "_law_net_here", "_law_trials_here", "_law_lies"]) (k := 1) F sc_qput_in (b := b_qput_in) (by decide) 2 fun X W h => ?_
  have C := h.cf
  have hb_range : X.mg "range" = none := by rw [h.mg]; exact E.b_range
  have hb_len : X.mg "len" = none := by rw [h.mg]; exact E.b_len
  have c_qtake := (ok_qtake (P := P) (w := w) (base := base) E).u h (by omega)
  have n0 : (["_law_feed_here", "_law_net_here", "_law_trials_here", "_law_lies", "_law_more", "_law_turn", "_law_trial", "_law_make"] : List Str)[0]? = some ("_law_feed_here" : Str) := rfl
  have v0 : visB (defScope (top 37)) "_law_feed_here" = true := by decide +kernel
  have s0 : Sto X (defScope (top 37)) "_law_feed_here" := sto_c h.fn (by decide +kernel)
  have n1 : (["_law_feed_here", "_law_net_here", "_law_trials_here", "_law_lies", "_law_more", "_law_turn", "_law_trial", "_law_make"] : List Str)[1]? = some ("_law_net_here" : Str) := rfl
  have v1 : visB (defScope (top 37)) "_law_net_here" = true := by decide +kernel
  have s1 : Sto X (defScope (top 37)) "_law_net_here" := sto_c h.fn (by decide +kernel)
  have n2 : (["_law_feed_here", "_law_net_here", "_law_trials_here", "_law_lies", "_law_more", "_law_turn", "_law_trial", "_law_make"] : List Str)[2]? = some ("_law_trials_here" : Str) := rfl
  have v2 : visB (defScope (top 37)) "_law_trials_here" = true := by decide +kernel
  have s2 : Sto X (defScope (top 37)) "_law_trials_here" := sto_c h.fn (by decide +kernel)
  have n3 : (["_law_feed_here", "_law_net_here", "_law_trials_here", "_law_lies", "_law_more", "_law_turn", "_law_trial", "_law_make"] : List Str)[3]? = some ("_law_lies" : Str) := rfl
  have v3 : visB (defScope (top 37)) "_law_lies" = true := by decide +kernel
  have s3 : Sto X (defScope (top 37)) "_law_lies" := sto_c h.fn (by decide +kernel)
  have n4 : (["_law_feed_here", "_law_net_here", "_law_trials_here", "_law_lies", "_law_more", "_law_turn", "_law_trial", "_law_make"] : List Str)[4]? = some ("_law_more" : Str) := rfl
  have v4 : visB (defScope (top 37)) "_law_more" = true := by decide +kernel
  have s4 : Sto X (defScope (top 37)) "_law_more" := sto_c h.fn (by decide +kernel)
  have n5 : (["_law_feed_here", "_law_net_here", "_law_trials_here", "_law_lies", "_law_more", "_law_turn", "_law_trial", "_law_make"] : List Str)[5]? = some ("_law_turn" : Str) := rfl
  have v5 : visB (defScope (top 37)) "_law_turn" = true := by decide +kernel
  have s5 : Sto X (defScope (top 37)) "_law_turn" := sto_c h.fn (by decide +kernel)
  have n6 : (["_law_feed_here", "_law_net_here", "_law_trials_here", "_law_lies", "_law_more", "_law_turn", "_law_trial", "_law_make"] : List Str)[6]? = some ("_law_trial" : Str) := rfl
  have v6 : visB (defScope (top 37)) "_law_trial" = true := by decide +kernel
  have s6 : Sto X (defScope (top 37)) "_law_trial" := sto_c h.fn (by decide +kernel)
  have n7 : (["_law_feed_here", "_law_net_here", "_law_trials_here", "_law_lies", "_law_more", "_law_turn", "_law_trial", "_law_make"] : List Str)[7]? = some ("_law_make" : Str) := rfl
  unfold b_qput_in
  exact (cr_cons (c1_lcC C rfl 4 n4 (by decide +kernel) (CompU.mk (own := [("_law_make", 7)]) (ci_range1 C.toCf0 (by decide +kernel) hb_range (ce_len C.toCf0 (by decide +kernel) hb_len (ca_cons (ce_var C.toCf0 1 n1 (by decide +kernel)) ca_nil))) (by decide +kernel) (fun _ _ _ _ _ => (cg_name (Cf.blk C).toCf0 7 n7 (sto_l (by decide +kernel)))) (fun _ _ _ _ _ => cts_nil) (fun _ _ _ _ _ => (ce_frz (ce_tup (ca_cons (ce_frz (ce_var (Cf.blk C).toCf0 7 n7 (by decide +kernel))) (ca_cons ce_str ca_nil))))) (by decide) (fun _ => rfl))) (cr_cons (c1_if (ct_cmp (ce_eq C.toCf0 (ce_x (cx_callC C.toCf0 0 c_qtake (by decide +kernel) (fun _ _ => .nil) (ca_cons (ce_var C.toCf0 0 n0 (by decide +kernel)) (ca_cons ce_int ca_nil)))) ce_int)) (cs_cons (c1_lcC C rfl 4 n4 (by decide +kernel) (CompU.mk (own := [("_law_make", 7)]) (ci_range1 C.toCf0 (by decide +kernel) hb_range (ce_len C.toCf0 (by decide +kernel) hb_len (ca_cons (ce_var C.toCf0 1 n1 (by decide +kernel)) ca_nil))) (by decide +kernel) (fun _ _ _ _ _ => (cg_name (Cf.blk C).toCf0 7 n7 (sto_l (by decide +kernel)))) (fun _ _ _ _ _ => (cts_one (ct_w (cw_or (ct_cmp (ce_eq (Cf.blk C).toCf0 (ce_var (Cf.blk C).toCf0 7 n7 (by decide +kernel)) ce_int)) (cw_or1 (ct_cmp (ce_eq (Cf.blk C).toCf0 (ce_ixB (Cf.blk C).toCf0 (ce_var (Cf.blk C).toCf0 1 n1 (by decide +kernel)) (ce_var (Cf.blk C).toCf0 7 n7 (by decide +kernel))) (ce_tup ca_nil)))))))) (fun _ _ _ _ _ => (ce_frz (ce_tup (ca_cons (ce_frz (ce_var (Cf.blk C).toCf0 7 n7 (by decide +kernel))) (ca_cons ce_str ca_nil))))) (by decide) (fun _ => rfl))) (cs_cons (c1_expr (ce_append C.toCf0 4 n4 (by decide +kernel) (ce_tup (ca_cons (ce_x (cx_callC C.toCf0 0 c_qtake (by decide +kernel) (fun _ _ => .nil) (ca_cons (ce_var C.toCf0 0 n0 (by decide +kernel)) (ca_cons (ce_len C.toCf0 (by decide +kernel) hb_len (ca_cons (ce_var C.toCf0 1 n1 (by decide +kernel)) ca_nil)) ca_nil)))) (ca_cons ce_str ca_nil))))) cs_nil)) cs_nil) (cr_cons (c1_for C [5, 6] (ci_range1 C.toCf0 (by decide +kernel) hb_range (ce_add (ce_var C.toCf0 3 n3 (by decide +kernel)) ce_int)) (cg_name C.toCf0 5 n5 s5) (cs_frz 4 (cs_cons (c1_for C [6] (ci_seq (ce_var C.toCf0 4 n4 (by decide +kernel))) (cg_name C.toCf0 6 n6 s6) (cs_cons (c1_if (ct_cmp (ce_lt (ce_len C.toCf0 (by decide +kernel) hb_len (ca_cons (ce_var C.toCf0 2 n2 (by decide +kernel)) ca_nil)) ce_int)) (cs_cons (c1_expr (ce_insert C.toCf0 2 n2 (by decide +kernel) (ce_x (cx_callC C.toCf0 0 c_qtake (by decide +kernel) (fun _ _ => .nil) (ca_cons (ce_var C.toCf0 0 n0 (by decide +kernel)) (ca_cons (ce_add (ce_len C.toCf0 (by decide +kernel) hb_len (ca_cons (ce_var C.toCf0 2 n2 (by decide +kernel)) ca_nil)) ce_int) ca_nil)))) (ce_var C.toCf0 6 n6 (by decide +kernel)))) cs_nil) cs_nil) cs_nil)) cs_nil))) (cr_ret C.toCf0 2 n2 (by decide +kernel)))))
theorem ok_qput_in {P : Program} {w : World} {K : PySem.W.Frag} {mg : Str → Option Value} {base : Heap} (E : Env K mg) : Gv P w K mg base (1 + 1) "_law_put_in" [] (spW K mg u_qput_in 2) := by
  obtain ⟨f, fd, F, hmg⟩ := E.d_qput_in
  exact Gv.of F hmg (fo_qput_in E F) (F.bindsN fun _ _ _ _ _ _ us hl => match us, hl with | [_, _, _, _], _ => rfl) .nil
def b_p_law : DS := (bSeq (bFor [1, 2, 3, 4, 5, 6, 7] (gN 1) (iRange1 (dB kMax2 (dAc (dC (.int 1)) (dAc (dB kMin2 (dAc (dB kLen (dAc (dVar 0) dA0)) (dAc (dC (.int 4)) dA0))) dA0)))) (bSeq (bSetX 2 (xCall u_qfeed [] (dAc (dVar 0) (dAc (dVar 1) dA0)))) (bSeq (bSet 3 (eX (xCallC u_qnet_k12 0 [] (dAc (dVar 2) (dAc (dIxB (dOfN (dLst (dAc (dC (.int 12)) (dAc (dC (.int 40)) dA0)))) (dB kInt (dAc (dAnd (dCmp kEq (dVar 1) (dC (.int 0))) (dCmp kEq (eX (xCallC u_qtake 0 [] (dAc (dVar 2) (dAc (dC (.int 8)) dA0)))) (dC (.int 5)))) dA0))) dA0))))) (bSeq (bSet 4 (eX (xCall u_qfrom [] (dAc (dVar 3) dA0)))) (bSeq (bSet 5 (eX (xCallC u_qtake 0 [] (dAc (dVar 2) (dAc (dC (.int 4)) dA0))))) (bSeq (bUnT2 6 7 (xCallC u_qtrials_k15 0 [] (dAc (dVar 2) (dAc (dVar 3) (dAc (dVar 4) (dAc (dVar 5) dA0)))))) (bSeq (bIf (dTnot (dTst (eX (xCall u_qright [] (dAc (dVar 3) (dAc (dVar 4) (dAc (dCallW 2 u_qput_in [true, false, true, false] [false, false, false, false] (dAc (dVar 2) (dAc (dVar 3) (dAc (dVar 7) (dAc (dVar 5) dA0))))) (dAc (dVar 5) dA0)))))))) (bSeq (bRet (dC (.bool false))) bNil) bNil) bNil))))))) (bSeq (bRet (dC (.bool true))) bNil))
def u_p_law : List Ar → R (Rs × List Sl) := runB 8 1 b_p_law
theorem sc_p_law : FnScope ["_law_script", "_law_k", "_law_feed_here", "_law_net_here", "_law_olds", "_law_lies", "_law_first", "_law_trials_here"] ["_law_script"] (defScope (top 39)) := ⟨rfl, rfl, rfl, by decide +kernel, rfl, by decide +kernel, by decide +kernel⟩
theorem fo_p_law {P : Program} {w : World} {K : PySem.W.Frag} {mg : Str → Option Value} {base : Heap} (E : Env K mg) {f : Addr} {fd : FuncData} (F : FunD K "law" "law" (defArgs (top 39)) (defBody (top 39)) (defScope (top 39)) [] [] f fd) : FnOk P w K mg base (L2N.CX P w) (6 + 1) f fd ["_law_script"] (spU K mg u_p_law) := by
  refine fn_u (N := ["_law_script", "_law_k", "_law_feed_here", "_law_net_here", "_law_olds", "_law_lies", "_law_first", "_law_trials_here"]) (ps := ["_law_script"]) (k := 6) F sc_p_law (b := b_p_law) (by decide) fun X W h => ?_
  have C := h.cf
  have hb_range : X.mg "range" = none := by rw [h.mg]; exact E.b_range
  have hb_max : X.mg "max" = none := by rw [h.mg]; exact E.b_max
  have hb_min : X.mg "min" = none := by rw [h.mg]; exact E.b_min
  have hb_len : X.mg "len" = none := by rw [h.mg]; exact E.b_len
  have hb_int : X.mg "int" = none := by rw [h.mg]; exact E.b_int
  have c_qfeed := (ok_qfeed (P := P) (w := w) (base := base) E).u h (by omega)
  have c_qnet := (ok_qnet (P := P) (w := w) (base := base) E).u h (by omega)
  have c_qtake := (ok_qtake (P := P) (w := w) (base := base) E).u h (by omega)
  have c_qfrom := (ok_qfrom (P := P) (w := w) (base := base) E).u h (by omega)
  have c_qtrials := (ok_qtrials (P := P) (w := w) (base := base) E).u h (by omega)
  have c_qright := (ok_qright (P := P) (w := w) (base := base) E).u h (by omega)
  have c_qput_in := (ok_qput_in (P := P) (w := w) (base := base) E).uW h (by omega)
  have n0 : (["_law_script", "_law_k", "_law_feed_here", "_law_net_here", "_law_olds", "_law_lies", "_law_first", "_law_trials_here"] : List Str)[0]? = some ("_law_script" : Str) := rfl
  have v0 : visB (defScope (top 39)) "_law_script" = true := by decide +kernel
  have s0 : Sto X (defScope (top 39)) "_law_script" := sto_c h.fn (by decide +kernel)
  have n1 : (["_law_script", "_law_k", "_law_feed_here", "_law_net_here", "_law_olds", "_law_lies", "_law_first", "_law_trials_here"] : List Str)[1]? = some ("_law_k" : Str) := rfl
  have v1 : visB (defScope (top 39)) "_law_k" = true := by decide +kernel
  have s1 : Sto X (defScope (top 39)) "_law_k" := sto_c h.fn (by decide +kernel)
  have n2 : (["_law_script", "_law_k", "_law_feed_here", "_law_net_here", "_law_olds", "_law_lies", "_law_first", "_law_trials_here"] : List Str)[2]? = some ("_law_feed_here" : Str) := rfl
  have v2 : visB (defScope (top 39)) "_law_feed_here" = true := by decide +kernel
  have s2 : Sto X (defScope (top 39)) "_law_feed_here" := sto_c h.fn (by decide +kernel)
  have n3 : (["_law_script", "_law_k", "_law_feed_here", "_law_net_here", "_law_olds", "_law_lies", "_law_first", "_law_trials_here"] : List Str)[3]? = some ("_law_net_here" : Str) := rfl
  have v3 : visB (defScope (top 39)) "_law_net_here" = true := by decide +kernel
  have s3 : Sto X (defScope (top 39)) "_law_net_here" := sto_c h.fn (by decide +kernel)
  have n4 : (["_law_script", "_law_k", "_law_feed_here", "_law_net_here", "_law_olds", "_law_lies", "_law_first", "_law_trials_here"] : List Str)[4]? = some ("_law_olds" : Str) := rfl
  have v4 : visB (defScope (top 39)) "_law_olds" = true := by decide +kernel
  have s4 : Sto X (defScope (top 39)) "_law_olds" := sto_c h.fn (by decide +kernel)
  have n5 : (["_law_script", "_law_k", "_law_feed_here", "_law_net_here", "_law_olds", "_law_lies", "_law_first", "_law_trials_here"] : List Str)[5]? = some ("_law_lies" : Str) := rfl
  have v5 : visB (defScope (top 39)) "_law_lies" = true := by decide +kernel
  have s5 : Sto X (defScope (top 39)) "_law_lies" := sto_c h.fn (by decide +kernel)
  have n6 : (["_law_script", "_law_k", "_law_feed_here", "_law_net_here", "_law_olds", "_law_lies", "_law_first", "_law_trials_here"] : List Str)[6]? = some ("_law_first" : Str) := rfl
  have v6 : visB (defScope (top 39)) "_law_first" = true := by decide +kernel
  have s6 : Sto X (defScope (top 39)) "_law_first" := sto_c h.fn (by decide +kernel)
  have n7 : (["_law_script", "_law_k", "_law_feed_here", "_law_net_here", "_law_olds", "_law_lies", "_law_first", "_law_trials_here"] : List Str)[7]? = some ("_law_trials_here" : Str) := rfl
  have v7 : visB (defScope (top 39)) "_law_trials_here" = true := by decide +kernel
  have s7 : Sto X (defScope (top 39)) "_law_trials_here" := sto_c h.fn (by decide +kernel)
  unfold b_p_law
  exact (cs_cons (c1_for C [1, 2, 3, 4, 5, 6, 7] (ci_range1 C.toCf0 (by decide +kernel) hb_range (ce_max2 C (by decide +kernel) hb_max (ca_cons ce_int (ca_cons (ce_min2 C (by decide +kernel) hb_min (ca_cons (ce_len C.toCf0 (by decide +kernel) hb_len (ca_cons (ce_var C.toCf0 0 n0 (by decide +kernel)) ca_nil)) (ca_cons ce_int ca_nil))) ca_nil)))) (cg_name C.toCf0 1 n1 s1) (cs_cons (c1_setX C.toCf0 2 n2 s2 (cx_call C.toCf0 c_qfeed (by decide +kernel) (fun _ _ => .nil) (ca_cons (ce_var C.toCf0 0 n0 (by decide +kernel)) (ca_cons (ce_var C.toCf0 1 n1 (by decide +kernel)) ca_nil)))) (cs_cons (c1_set C.toCf0 3 n3 s3 (ce_x (cx_callC C.toCf0 0 c_qnet (by decide +kernel) (fun _ _ => .nil) (ca_cons (ce_var C.toCf0 2 n2 (by decide +kernel)) (ca_cons (ce_ixB C.toCf0 (ce_ofN (cn_lst (ca_cons ce_int (ca_cons ce_int ca_nil)))) (ce_intc C.toCf0 (by decide +kernel) hb_int (ca_cons (ce_and (ce_eq C.toCf0 (ce_var C.toCf0 1 n1 (by decide +kernel)) ce_int) (ce_one (ce_eq C.toCf0 (ce_x (cx_callC C.toCf0 0 c_qtake (by decide +kernel) (fun _ _ => .nil) (ca_cons (ce_var C.toCf0 2 n2 (by decide +kernel)) (ca_cons ce_int ca_nil)))) ce_int))) ca_nil))) ca_nil))))) (cs_cons (c1_set C.toCf0 4 n4 s4 (ce_x (cx_call C.toCf0 c_qfrom (by decide +kernel) (fun _ _ => .nil) (ca_cons (ce_var C.toCf0 3 n3 (by decide +kernel)) ca_nil)))) (cs_cons (c1_set C.toCf0 5 n5 s5 (ce_x (cx_callC C.toCf0 0 c_qtake (by decide +kernel) (fun _ _ => .nil) (ca_cons (ce_var C.toCf0 2 n2 (by decide +kernel)) (ca_cons ce_int ca_nil))))) (cs_cons (c1_unT2 C 6 7 n6 s6 n7 s7 (cx_callC C.toCf0 0 c_qtrials (by decide +kernel) (fun _ _ => .nil) (ca_cons (ce_var C.toCf0 2 n2 (by decide +kernel)) (ca_cons (ce_var C.toCf0 3 n3 (by decide +kernel)) (ca_cons (ce_var C.toCf0 4 n4 (by decide +kernel)) (ca_cons (ce_var C.toCf0 5 n5 (by decide +kernel)) ca_nil)))))) (cs_cons (c1_if (ct_not (ct_of (ce_x (cx_call C.toCf0 c_qright (by decide +kernel) (fun _ _ => .nil) (ca_cons (ce_var C.toCf0 3 n3 (by decide +kernel)) (ca_cons (ce_var C.toCf0 4 n4 (by decide +kernel)) (ca_cons (ce_callW C.toCf0 [true, false, true, false] [false, false, false, false] c_qput_in (by decide +kernel) (ca_cons (ce_var C.toCf0 2 n2 (by decide +kernel)) (ca_cons (ce_var C.toCf0 3 n3 (by decide +kernel)) (ca_cons (ce_var C.toCf0 7 n7 (by decide +kernel)) (ca_cons (ce_var C.toCf0 5 n5 (by decide +kernel)) ca_nil))))) (ca_cons (ce_var C.toCf0 5 n5 (by decide +kernel)) ca_nil)))))))) (cs_cons (c1_ret ce_bool) cs_nil) cs_nil) cs_nil))))))) (cs_cons (c1_ret ce_bool) cs_nil))
end PDW
set_option linter.all false
set_option maxRecDepth 100000
set_option autoImplicit false
namespace PD
open PySem L2
theorem as_call {m : List Ar → R (Rs × List Sl)} {as : List Ar} {z : Rs × List Sl} (h : m as = .val z) : m as = .val z := h
local macro_rules
  | `(tactic| array_get_dec) => `(tactic| with_reducible first
  | exact e_C | exact a_nil | exact k_sub | exact k_and | exact k_or | exact k_eqI | exact k_neI | exact k_I | exact k_mx2 | exact k_mn2
  | apply e_I | apply e_add | apply e_neg | apply e_cmp | apply t_tst | apply t_not | apply e_not | apply t_or | apply t_and | apply e_and | apply e_or
  | apply k_mul | apply k_div | apply k_mod | apply k_pow | apply k_shl | apply k_shr
  | apply a_cons | apply n_lst | apply e_tup | apply e_ofN | apply c_l | apply x_c | apply e_B | apply n_B | apply e_isi
  | apply e_x | apply x_call | apply x_callE | apply x_callM | apply e_frzT | apply e_ap | apply i_seqL | apply i_seqT | apply i_enumL | apply i_enumT | apply i_range1 | apply i_range2 | apply n_lrng1 | apply n_lrng2)
local macro_rules
  | `(tactic| array_mem_dec) => `(tactic| repeat' first | exact e_frz (e_var rfl) | array_get_dec | exact e_var rfl | exact e_varO rfl | exact e_varI rfl | (refine as_call ?_; assumption) | exact k_neS | exact k_eqS | exact e_pop rfl | exact e_ixT (e_var rfl) e_C rfl | exact e_ixL (e_var rfl) e_C rfl | exact e_ixS (e_varI rfl) e_C rfl rfl | exact e_ixS (e_varO rfl) e_C rfl rfl | exact k_ninKS rfl | exact k_inKS rfl | exact k_lenI rfl | exact k_lenJ rfl | rfl | exact flat_int _ | (intro _))
local macro_rules
  | `(tactic| and_intros) => `(tactic| repeat (with_reducible first | apply w_seqN | apply w_seqA))
local macro_rules
  | `(tactic| bv_decide) => `(tactic| (and_intros; (with_reducible first | apply w_set | apply w_setX | apply w_setC | apply w_setG | apply w_expr | apply w_exprX | apply w_inc); array_mem_dec))
local macro_rules
  | `(tactic| bv_normalize) => `(tactic| (and_intros; apply w_ifN; array_mem_dec; (try (case hz => first | rfl | (simp [tyIs, isN, optI]; done) | (simp [tyIs, isN, optI]; omega))); and_intros))
local macro_rules
  | `(tactic| simp_all_arith) => `(tactic| (and_intros; apply w_ifY; array_mem_dec; (try (case hz => first | rfl | (simp [tyIs, isN, optI]; done) | (simp [tyIs, isN, optI]; omega))); and_intros))
local macro_rules
  | `(tactic| apply_assumption) => `(tactic| (and_intros; apply w_ifB; focus array_mem_dec))
local macro_rules
  | `(tactic| nofun) => `(tactic| (and_intros; (with_reducible first | apply w_ret | apply w_retX | apply w_retC | apply w_retO | apply w_ret0); array_mem_dec))
local macro_rules
  | `(tactic| ac_rfl) => `(tactic| (all_goals (try (with_reducible first | exact mulL (by decide) | exact mulR (by decide) | exact mulR (by omega) | exact mulL (by omega) | exact mulL (mod_64 (by decide) (by decide)) | exact modP (by first | assumption | decide | omega) | exact divP (by first | assumption | decide | omega) (by first | assumption | decide | omega) | exact cRng_of (by omega) (by omega) (by omega) (by omega)))))
end PD
section
open PySem L2 PD
local macro_rules
  | `(tactic| array_get_dec) => `(tactic| with_reducible first
  | exact e_C | exact a_nil | exact k_sub | exact k_and | exact k_or | exact k_eqI | exact k_neI | exact k_I | exact k_mx2 | exact k_mn2
  | apply e_I | apply e_add | apply e_neg | apply e_cmp | apply t_tst | apply t_not | apply e_not | apply t_or | apply t_and | apply e_and | apply e_or
  | apply k_mul | apply k_div | apply k_mod | apply k_pow | apply k_shl | apply k_shr
  | apply a_cons | apply n_lst | apply e_tup | apply e_ofN | apply c_l | apply x_c | apply e_B | apply n_B | apply e_isi
  | apply e_x | apply x_call | apply x_callE | apply x_callM | apply e_frzT | apply e_ap | apply i_seqL | apply i_seqT | apply i_enumL | apply i_enumT | apply i_range1 | apply i_range2 | apply n_lrng1 | apply n_lrng2)
local macro_rules
  | `(tactic| array_mem_dec) => `(tactic| repeat' first | exact e_frz (e_var rfl) | array_get_dec | exact e_var rfl | exact e_varO rfl | exact e_varI rfl | (refine as_call ?_; assumption) | exact k_neS | exact k_eqS | exact e_pop rfl | exact e_ixT (e_var rfl) e_C rfl | exact e_ixL (e_var rfl) e_C rfl | exact e_ixS (e_varI rfl) e_C rfl rfl | exact e_ixS (e_varO rfl) e_C rfl rfl | exact k_ninKS rfl | exact k_inKS rfl | exact k_lenI rfl | exact k_lenJ rfl | rfl | exact flat_int _ | (intro _))
local macro_rules
  | `(tactic| and_intros) => `(tactic| repeat (with_reducible first | apply w_seqN | apply w_seqA))
local macro_rules
  | `(tactic| bv_decide) => `(tactic| (and_intros; (with_reducible first | apply w_set | apply w_setX | apply w_setC | apply w_setG | apply w_expr | apply w_exprX | apply w_inc); array_mem_dec))
local macro_rules
  | `(tactic| bv_normalize) => `(tactic| (and_intros; apply w_ifN; array_mem_dec; (try (case hz => first | rfl | (simp [tyIs, isN, optI]; done) | (simp [tyIs, isN, optI]; omega))); and_intros))
local macro_rules
  | `(tactic| simp_all_arith) => `(tactic| (and_intros; apply w_ifY; array_mem_dec; (try (case hz => first | rfl | (simp [tyIs, isN, optI]; done) | (simp [tyIs, isN, optI]; omega))); and_intros))
local macro_rules
  | `(tactic| apply_assumption) => `(tactic| (and_intros; apply w_ifB; focus array_mem_dec))
local macro_rules
  | `(tactic| nofun) => `(tactic| (and_intros; (with_reducible first | apply w_ret | apply w_retX | apply w_retC | apply w_retO | apply w_ret0); array_mem_dec))
local macro_rules
  | `(tactic| ac_rfl) => `(tactic| (all_goals (try (with_reducible first | exact mulL (by decide) | exact mulR (by decide) | exact mulR (by omega) | exact mulL (by omega) | exact mulL (mod_64 (by decide) (by decide)) | exact modP (by first | assumption | decide | omega) | exact divP (by first | assumption | decide | omega) (by first | assumption | decide | omega) | exact cRng_of (by omega) (by omega) (by omega) (by omega)))))
set_option linter.all false
set_option maxRecDepth 100000
set_option autoImplicit false
namespace PD
open PySem L2
def WE (b : DS) (Γ : List Sl) (x : Exn) : Prop := b Γ = .exc x
section
variable {Γ Γ1 Γ2 : List Sl} {f g : DF} {b r r2 c2 : DS} {x : DX} {t : DT} {fr z : Bool} {d : PyData} {P : Fw → List Sl → Prop} {m i : Nat} {y : Exn} {k : DA} {as : List AV} {ds : List PyData}
theorem we_here (h : b Γ = .exc y) : WE (bSeq b r) Γ y := by
  unfold WE bSeq
  rw [h]; rfl
theorem we_on (h : b Γ = .val (.nx, Γ1)) (h2 : WE r Γ1 y) : WE (bSeq b r) Γ y := by
  unfold WE bSeq
  rw [h]; exact h2
theorem we_seqN (h : WE r Γ y) : WE (bSeq bNil r) Γ y := h
theorem we_seqA (h : WE (bSeq b (bSeq r r2)) Γ y) : WE (bSeq (bSeq b r) r2) Γ y := by
  have e : bSeq (bSeq b r) r2 Γ = bSeq b (bSeq r r2) Γ := by
    unfold bSeq
    rw [R.bind_assoc]
    congr 1
    funext z
    obtain ⟨w, Γ1⟩ := z
    cases w <;> rfl
  unfold WE
  rw [e]
  exact h
theorem we_ifY (h1 : t Γ = .val (z, Γ1)) (hz : z = true) (h : WE (bSeq b r) Γ1 y) : WE (bSeq (bIf t b c2) r) Γ y := by
  subst hz
  have e : bSeq (bIf t b c2) r Γ = bSeq b r Γ1 := by
    unfold bSeq bIf
    rw [h1, bind_val]; rfl
  unfold WE
  rw [e]; exact h
theorem we_ifN (h1 : t Γ = .val (z, Γ1)) (hz : z = false) (h : WE (bSeq c2 r) Γ1 y) : WE (bSeq (bIf t b c2) r) Γ y := by
  subst hz
  have e : bSeq (bIf t b c2) r Γ = bSeq c2 r Γ1 := by
    unfold bSeq bIf
    rw [h1, bind_val]; rfl
  unfold WE
  rw [e]; exact h
theorem we_raise {c : Str} {fns : List Str} (h1 : k Γ = .val (as, Γ1)) (h2 : allF as = some (ds, true)) (h3 : ds.length = fns.length) (hy : y = ⟨c, (fns.zip ds).reverse, Γ1⟩) : WE (bSeq (bRaise c fns k) r) Γ y :=
  we_here (by unfold bRaise; rw [h1, bind_val]; simp only [h2]; rw [if_pos h3, hy])
theorem we_exprX (h : x Γ = .exc y) : WE (bSeq (bExprX x) r) Γ y := we_here (by unfold bExprX; rw [h]; rfl)
theorem we_setXF (h : x Γ = .exc y) : WE (bSeq (bSetX m x) r) Γ y := we_here (by unfold bSetX; rw [h]; rfl)
theorem we_oset (h1 : f Γ = .val (.d fr d, Γ1)) (h : WE r (Γ1.set m (.dat fr d)) y) : WE (bSeq (bSet m f) r) Γ y := we_on (by unfold bSet; rw [h1]; rfl) h
theorem we_oexprX {s : Rs} {e : PyData} (h1 : x Γ = .val (s, Γ1)) (h2 : rsF s = some e) (h : WE r Γ1 y) : WE (bSeq (bExprX x) r) Γ y := we_on (by unfold bExprX; rw [h1, bind_val, h2]; rfl) h
theorem x_callX {mm : List Ar → R (Rs × List Sl)} {dds : List PyData} (h1 : k Γ = .val (as, Γ1)) (h2 : rdDs Γ1 none as = some ds) (h3 : mm ((ds ++ dds).map Ar.d) = .exc y) : xCall mm dds k Γ = .exc ⟨y.cls, y.flds, Γ1⟩ := by
  unfold xCall; rw [h1, bind_val, h2, ofO_some, bind_val, h3]; rfl
theorem run_x {n np : Nat} {b : DS} {as : List Ar} {Z : List Sl} (hl : as.length = np) (h : WE b (initS n as) y) (hz : cellsAt as y.st = some Z) : runB n np b as = .exc ⟨y.cls, y.flds, Z⟩ := by
  unfold runB
  have e : (as.length == np) = true := by rw [hl]; exact beq_self_eq_true _
  unfold WE at h
  rw [e, req_true, bind_val, h]
  show (R.ofO (cellsAt as y.st)).bind _ = _
  rw [hz]; rfl
theorem we_for {is : List Nat} {gg : DG} {it : DI} {yy : List PyData × Bool} (Inv : Nat → List Sl → Prop) (j : Nat) (h1 : it Γ = .val (yy, Γ1)) (h0 : Inv 0 (wipeG Γ1 is)) (hj : j < yy.1.length)
    (hb : ∀ i d Γ, i < j → yy.1[i]? = some d → Inv i Γ → ∃ Γ1, gg yy.2 d Γ = some Γ1 ∧ W b Γ1 fun w Γ2 => (w = .nx ∨ w = .ct) ∧ Inv (i + 1) (wipeG Γ2 is))
    (hx : ∀ d Γ, yy.1[j]? = some d → Inv j Γ → ∃ Γ1, gg yy.2 d Γ = some Γ1 ∧ WE b Γ1 y) : WE (bSeq (bFor is gg it b) r) Γ y := by
  refine we_here ?_
  unfold bFor
  rw [h1, bind_val]
  have key : ∀ (n : Nat) (xs : List PyData) (Γ : List Sl), (∀ q, xs[q]? = yy.1[n + q]?) → n ≤ j → Inv n (wipeG Γ is) → loopU is gg yy.2 b xs Γ = .exc y := by
    intro n xs
    induction xs generalizing n with
    | nil =>
      intro Γ hq hn _
      have := hq (j - n)
      rw [show n + (j - n) = j by omega, List.getElem?_eq_getElem hj] at this
      simp at this
    | cons d xs ih =>
      intro Γ hq hn hi
      have h0 : yy.1[n]? = some d := by have := hq 0; simpa using this.symm
      unfold loopU
      by_cases e : n = j
      · subst e
        obtain ⟨Γ1, e1, e2⟩ := hx d _ h0 hi
        unfold WE at e2
        rw [e1, ofO_some, bind_val, e2]; rfl
      · obtain ⟨Γ1, e1, o⟩ := hb n d _ (by omega) h0 hi
        obtain ⟨z, ez, hw, hz⟩ := o
        obtain ⟨w, Γ2⟩ := z
        rw [e1, ofO_some, bind_val, ez, bind_val]
        have hq' : ∀ q, xs[q]? = yy.1[n + 1 + q]? := fun q => by
          have := hq (q + 1)
          simp only [List.getElem?_cons_succ] at this
          rw [this]; congr 1; omega
        rcases hw with rfl | rfl
        · exact ih (n + 1) Γ2 hq' (by omega) hz
        · exact ih (n + 1) Γ2 hq' (by omega) hz
  exact key 0 yy.1 Γ1 (fun q => by simp) (by omega) h0
theorem w_try0 {xs : List Str} {D : Str} {s : DS} (h : W b Γ fun w Γ1 => match w with
    | .nx => W r Γ1 P
    | w => P w Γ1) : W (bSeq (bTry xs i D b s) r) Γ P := by
  refine w_seq ?_
  obtain ⟨z, e, q⟩ := h
  refine ⟨z, ?_, q⟩
  unfold bTry
  rw [e]
theorem w_tryX {xs : List Str} {D : Str} {s : DS} (h : WE b Γ y) (hc : xs.contains y.cls = true) (hD : exIs y.cls D = true) (hs : W s (y.st.set i (.dat true (xcD y.cls y.flds))) fun w Γ1 => match w with
    | .nx => W r (Γ1.set i .un) P
    | w => P w (Γ1.set i .un)) : W (bSeq (bTry xs i D b s) r) Γ P := by
  refine w_seq ?_
  obtain ⟨z, e, q⟩ := hs
  obtain ⟨w, Γ1⟩ := z
  refine ⟨(w, Γ1.set i .un), ?_, ?_⟩
  · unfold bTry
    unfold WE at h
    rw [h]
    dsimp only
    rw [if_pos hc, if_pos hD, e]
  · cases w <;> exact q
theorem e_isx {xs Ds : List Str} {c : Str} {kvs : List (PyData × PyData)} (h1 : f Γ = .val (.d fr (.dict ((.none, .str c) :: kvs)), Γ1)) (hc : xs.contains c = true) (hz : Ds.any (exIs c) = z) : dIsx xs Ds f Γ = .val (.d true (.bool z), Γ1) := by
  unfold dIsx; rw [h1, bind_val]; simp only [hc, hz]; rfl
theorem e_att {xs : List Str} {n c : Str} {kvs : List (PyData × PyData)} (h1 : f Γ = .val (.d fr (.dict ((.none, .str c) :: kvs)), Γ1)) (hc : xs.contains c = true) (hf : fldA n kvs = some d) : dAtt xs n f Γ = .val (.d fr d, Γ1) := by
  unfold dAtt; rw [h1, bind_val]; simp only [hc, hf]; rfl
end
local macro_rules
  | `(tactic| injections) => `(tactic| repeat (with_reducible first | apply we_seqN | apply we_seqA))
local macro_rules
  | `(tactic| false_or_by_contra) => `(tactic| (injections; apply we_ifN; array_mem_dec; (try (case hz => first | rfl | (simp [tyIs, isN, optI]; done) | (simp [tyIs, isN, optI]; omega))); injections))
local macro_rules
  | `(tactic| subst_eqs) => `(tactic| (injections; apply we_ifY; array_mem_dec; (try (case hz => first | rfl | (simp [tyIs, isN, optI]; done) | (simp [tyIs, isN, optI]; omega))); injections))
end PD
section
open PySem L2 PD
local macro_rules
  | `(tactic| injections) => `(tactic| repeat (with_reducible first | apply we_seqN | apply we_seqA))
local macro_rules
  | `(tactic| false_or_by_contra) => `(tactic| (injections; apply we_ifN; array_mem_dec; (try (case hz => first | rfl | (simp [tyIs, isN, optI]; done) | (simp [tyIs, isN, optI]; omega))); injections))
local macro_rules
  | `(tactic| subst_eqs) => `(tactic| (injections; apply we_ifY; array_mem_dec; (try (case hz => first | rfl | (simp [tyIs, isN, optI]; done) | (simp [tyIs, isN, optI]; omega))); injections))
set_option linter.all false
set_option maxRecDepth 100000
set_option autoImplicit false
namespace PD
open PySem L2
def El (net : List (List Int)) (m e : Nat) : Prop := ∃ row, net[m]? = some row ∧ ((e : Nat) : Int) ∈ row
inductive Wk (net : List (List Int)) (y : Nat) : Nat → Nat → Prop
  | nil : Wk net y y 0
  | snoc {m n e : Nat} : Wk net y m n → El net m e → Wk net y e (n + 1)
theorem wk0 {net : List (List Int)} {y o : Nat} (h : Wk net y o 0) : o = y := by cases h; rfl
theorem El.lt {net : List (List Int)} (hN : NetOk net) {m e : Nat} (h : El net m e) : e < m := by
  obtain ⟨row, h1, h2⟩ := h
  have := ((hN m row h1).1 _ h2).2
  omega
theorem Wk.le {net : List (List Int)} (hN : NetOk net) {y o n : Nat} (h : Wk net y o n) : o + n ≤ y := by
  induction h with
  | nil => omega
  | snoc a b ih => have := b.lt hN; omega
def Lst (S : Nat → Prop) : Option Nat → Prop
  | none => ∀ n, ¬ S n
  | some n => S n ∧ ∀ k, S k → n ≤ k
theorem lst_iff {S T : Nat → Prop} {a : Option Nat} (h : Lst S a) (e : ∀ n, S n ↔ T n) : Lst T a := by
  cases a with
  | none => exact fun n => fun z => h n ((e n).mpr z)
  | some n => exact ⟨(e n).mp h.1, fun k z => h.2 k ((e k).mpr z)⟩
abbrev Ds (net : List (List Int)) (y o : Nat) (a : Option Nat) : Prop := Lst (Wk net y o) a
def StOk (len : Nat) (st : List (Option Nat)) (S : Nat → Nat → Prop) : Prop := st.length = len ∧ ∀ (m : Nat) (a : Option Nat), st[m]? = some a → Lst (S m) a
theorem StOk.iff {len : Nat} {st : List (Option Nat)} {S T : Nat → Nat → Prop} (h : StOk len st S) (e : ∀ m n, S m n ↔ T m n) : StOk len st T := ⟨h.1, fun m a ha => lst_iff (h.2 m a ha) (e m)⟩
end PD
set_option linter.all false
set_option maxRecDepth 100000
set_option autoImplicit false
namespace PD
open PySem L2
theorem nodup_len : ∀ (n : Nat) (xs : List Int), xs.Nodup → (∀ x ∈ xs, 0 ≤ x ∧ x < (n : Int)) → xs.length ≤ n
  | 0, xs, _, h => by
    cases xs with
    | nil => simp
    | cons a r => have := h a (by simp); omega
  | n + 1, xs, hn, h => by
    have h1 := nodup_len n (xs.filter fun x => decide (x ≠ (n : Int))) (hn.sublist List.filter_sublist) fun x hx => by
      have q := List.mem_filter.mp hx
      have q1 := h x q.1
      have q2 : x ≠ (n : Int) := by simpa using q.2
      omega
    have h2 : (xs.filter fun x => decide (x ≠ (n : Int))).length + xs.count (n : Int) = xs.length := by
      have : xs.count (n : Int) = (xs.filter fun x => !decide (x ≠ (n : Int))).length := by
        rw [List.count_eq_length_filter]
        congr 1
        apply List.filter_congr
        intro x _
        by_cases e : x = (n : Int) <;> simp [e]
      rw [this]
      exact filt_sum (fun x => decide (x ≠ (n : Int))) xs
    have h3 : xs.count (n : Int) ≤ 1 := List.nodup_iff_count.mp hn _
    show xs.length ≤ n + 1
    have h1 : (xs.filter fun x => decide (x ≠ (n : Int))).length ≤ n := h1
    generalize (xs.filter fun x => decide (x ≠ (n : Int))).length = q at h1 h2
    omega
structure Mid (net : List (List Int)) (y L : Nat) (E : Nat → Prop) (kvs : List (Int × PyData)) (found : List Int) : Prop where
  has : ∀ e : Nat, (lookI kvs (e : Int)).isSome = true ↔ (∃ n, n ≤ L ∧ Wk net y e n) ∨ E e
  nat : ∀ k ∈ kvs.map (·.1), 0 ≤ k ∧ k < ((y + 1 : Nat) : Int)
  val : ∀ (e : Nat) (v : PyData), lookI kvs (e : Int) = some v → (e = y ∧ v = .none) ∨ ∃ m n : Nat, v = .int (m : Int) ∧ Ds net y m (some n) ∧ Ds net y e (some (n + 1)) ∧ El net m e
  fnd : ∀ x : Int, x ∈ found ↔ ∃ e : Nat, x = (e : Int) ∧ E e ∧ ¬ ∃ n, n ≤ L ∧ Wk net y e n
  nd : (kvs.map (·.1)).Nodup
  fl : found.length ≤ kvs.length
  fv : ∀ z ∈ kvs, flat z.2 = true
theorem Mid.len {net : List (List Int)} {y L : Nat} {E : Nat → Prop} {kvs : List (Int × PyData)} {found : List Int} (h : Mid net y L E kvs found) : kvs.length ≤ y + 1 := by
  have := nodup_len (y + 1) _ h.nd h.nat
  rw [List.length_map] at this
  exact this
theorem Mid.iff {net : List (List Int)} {y L : Nat} {E E' : Nat → Prop} {kvs : List (Int × PyData)} {found : List Int} (h : Mid net y L E kvs found) (e : ∀ x, E x ↔ E' x) : Mid net y L E' kvs found := by
  have : E = E' := funext fun x => propext (e x)
  subst this
  exact h
theorem Mid.old {net : List (List Int)} {y L : Nat} {E : Nat → Prop} {kvs : List (Int × PyData)} {found : List Int} (h : Mid net y L E kvs found) {e : Nat} (he : (lookI kvs (e : Int)).isSome = true) : Mid net y L (fun x => E x ∨ x = e) kvs found := by
  refine ⟨fun x => ?_, h.nat, h.val, fun x => ?_, h.nd, h.fl, h.fv⟩
  · rw [h.has]
    constructor
    · rintro (a | a)
      · exact .inl a
      · exact .inr (.inl a)
    · rintro (a | a | a)
      · exact .inl a
      · exact .inr a
      · subst a; exact (h.has _).mp he
  · rw [h.fnd]
    constructor
    · rintro ⟨z, h1, h2, h3⟩
      exact ⟨z, h1, .inl h2, h3⟩
    · rintro ⟨z, h1, h2 | h2, h3⟩
      · exact ⟨z, h1, h2, h3⟩
      · subst h2
        exact ⟨z, h1, ((h.has z).mp he).resolve_left h3, h3⟩
theorem Mid.new {net : List (List Int)} (hN : NetOk net) {y L : Nat} {E : Nat → Prop} {kvs : List (Int × PyData)} {found : List Int} (h : Mid net y L E kvs found) {m e : Nat} (he : lookI kvs (e : Int) = none) (hm : Ds net y m (some L)) (hl : El net m e) :
    Mid net y L (fun x => E x ∨ x = e) (putI kvs (e : Int) (.int (m : Int))) (found ++ [(e : Int)]) := by
  have hno : ¬ ((∃ n, n ≤ L ∧ Wk net y e n) ∨ E e) := fun z => by
    have := (h.has e).mpr z
    rw [he] at this; cases this
  have hle := (Wk.snoc hm.1 hl).le hN
  refine ⟨fun x => ?_, ?_, fun x v hv => ?_, fun x => ?_, ?_, ?_, ?_⟩
  · rw [lookI_put]
    by_cases q : ((x : Nat) : Int) = (e : Nat)
    · rw [if_pos q]
      have : x = e := by omega
      simp [this]
    · rw [if_neg q, h.has]
      have : x ≠ e := by omega
      simp [this]
  · rw [putI_new _ he]
    intro k hk
    rw [List.map_append, List.mem_append] at hk
    rcases hk with hk | hk
    · exact h.nat k hk
    · have : k = (e : Int) := by simpa using hk
      omega
  · rw [lookI_put] at hv
    by_cases q : ((x : Nat) : Int) = (e : Nat)
    · rw [if_pos q] at hv
      have : x = e := by omega
      subst this
      cases hv
      refine .inr ⟨m, L, rfl, hm, ⟨.snoc hm.1 hl, fun k hk => ?_⟩, hl⟩
      by_cases z : k ≤ L
      · exact absurd (.inl ⟨k, z, hk⟩) hno
      · omega
    · rw [if_neg q] at hv
      exact h.val x v hv
  · rw [List.mem_append, h.fnd]
    constructor
    · rintro (⟨z, h1, h2, h3⟩ | h1)
      · exact ⟨z, h1, .inl h2, h3⟩
      · exact ⟨e, by simpa using h1, .inr rfl, fun z => hno (.inl z)⟩
    · rintro ⟨z, h1, h2 | h2, h3⟩
      · exact .inl ⟨z, h1, h2, h3⟩
      · subst h2; exact .inr (by simp [h1])
  · rw [putI_new _ he, List.map_append, List.nodup_append]
    refine ⟨h.nd, by simp, fun a ha b hb => ?_⟩
    have : b = (e : Int) := by simpa using hb
    subst this
    rintro rfl
    obtain ⟨z, hz, hz2⟩ := List.mem_map.mp ha
    exact lookI_none.mp he z.2 (by rw [← hz2]; exact hz)
  · rw [putI_new _ he]
    have := h.fl
    simp; omega
  · rw [putI_new _ he]
    intro z hz
    rcases List.mem_append.mp hz with hz | hz
    · exact h.fv z hz
    · have : z = ((e : Int), PyData.int (m : Int)) := by simpa using hz
      subst this; rfl
abbrev YOk (net : List (List Int)) (y L : Nat) (kvs : List (Int × PyData)) : Prop := Mid net y L (fun _ => False) kvs []
def Fr (net : List (List Int)) (y L : Nat) (row : List Int) : Prop := ∀ x : Int, x ∈ row ↔ ∃ m : Nat, x = (m : Int) ∧ Ds net y m (some L)
theorem y0 (net : List (List Int)) (y : Nat) : YOk net y 0 [((y : Int), .none)] where
  has := fun e => by
    rw [lookI_cons, lookI_nil]
    simp only [Nat.le_zero_eq, or_false, exists_eq_left]
    constructor
    · intro h
      by_cases q : (y : Int) = (e : Int)
      · have : y = e := by omega
        subst this; exact .nil
      · rw [if_neg q] at h; cases h
    · intro h
      have := wk0 h
      subst this
      simp
  nat := by simp; omega
  val := fun e v h => by
    rw [lookI_cons, lookI_nil] at h
    by_cases q : (y : Int) = (e : Int)
    · rw [if_pos q] at h; cases h; exact .inl ⟨by omega, rfl⟩
    · rw [if_neg q] at h; cases h
  fnd := by simp
  nd := by simp
  fl := by simp
  fv := by simp [flat]
theorem fr0 (net : List (List Int)) (y : Nat) : Fr net y 0 [(y : Int)] := fun x => by
  constructor
  · intro h
    have : x = (y : Int) := by simpa using h
    exact ⟨y, this, .nil, fun _ _ => Nat.zero_le _⟩
  · rintro ⟨m, rfl, h⟩
    have := wk0 h.1
    subst this; simp
structure WayOk (net : List (List Int)) (y o n : Nat) (w : List Nat) : Prop where
  len : w.length = n + 1
  fst : w[0]? = some y
  lst : w[n]? = some o
  stp : ∀ (k a b : Nat), w[k]? = some a → w[k + 1]? = some b → El net a b
end PD
set_option linter.all false
set_option maxRecDepth 100000
set_option autoImplicit false
namespace PD
open PySem L2
theorem bits_q (net : List (List Int)) (hN : NetOk net) (hn : net.length ≤ 1000) : ∃ bs, BitsOk net bs ∧ uBitsOf [.d (dTT net)] = .val (.c (.lst (bs.map PyData.int)), [.un]) := bitsOf_u net hN hn
theorem isIn_q (m k : Int) (hk : 0 ≤ k) : uIsIn [.d (.int m), .d (.int k)] = .val (.d (.bool (inb m k)), [.un, .un]) := isIn_u m k hk
theorem inb_anc {net : List (List Int)} {bs : List Int} (h : BitsOk net bs) {k : Nat} {b : Int} (hb : bs[k]? = some b) (j : Nat) : inb b (j : Int) = true ↔ Anc net k j := by
  unfold inb
  rw [decide_eq_true_iff, isIn_msk (h.2 k b hb) (by omega)]
  simp
structure Ord (rows : List (List Int)) (order back : List Nat) : Prop where
  ol : order.length = rows.length
  bl : back.length = rows.length
  ob : ∀ p m : Nat, order[p]? = some m → back[m]? = some p
  bo : ∀ m p : Nat, back[m]? = some p → order[p]? = some m
  top : ∀ m e : Nat, El rows m e → ∀ p : Nat, back[m]? = some p → ∃ q : Nat, back[e]? = some q ∧ q < p
theorem Ord.lt {rows : List (List Int)} {order back : List Nat} (h : Ord rows order back) {p m : Nat} (hp : order[p]? = some m) : m < rows.length := by
  rw [← h.bl]
  exact (List.getElem?_eq_some_iff.mp (h.ob p m hp)).1
theorem w_retF {Γ Γ1 : List Sl} {f : DF} {r : DS} {d : PyData} {fr : Bool} {P : Fw → List Sl → Prop} (h1 : f Γ = .val (.d fr d, Γ1)) (hf : flat d = true) (h : P (.rt (.d d)) Γ1) : W (bSeq (bRet f) r) Γ P := w_seq ⟨(.rt (.d d), Γ1), by
  unfold bRet; rw [h1, bind_val]
  cases fr with
  | true => rfl
  | false =>
    show (R.val (AV.d (flat d) d, Γ1)).bind _ = _
    rw [hf]; rfl, h⟩
end PD
set_option linter.all false
set_option maxRecDepth 100000
set_option autoImplicit false
namespace PD
open PySem L2
end PD
set_option linter.all false
set_option maxRecDepth 100000
set_option maxHeartbeats 0
set_option autoImplicit false
namespace PD
open PySem L2
theorem e_andT {Γ Γ1 Γ2 : List Sl} {f g : DF} {f1 f2 z x : Bool} (h1 : f Γ = .val (.d f1 (.bool x), Γ1)) (hx : x = true) (h2 : g Γ1 = .val (.d f2 (.bool z), Γ2)) : dAnd f g Γ = .val (.d true (.bool z), Γ2) := by
  subst hx
  unfold dAnd; rw [h1, bind_val]
  show ((g Γ1).bind _) = _
  rw [h2]; rfl
theorem e_andF {Γ Γ1 : List Sl} {f g : DF} {f1 x : Bool} (h1 : f Γ = .val (.d f1 (.bool x), Γ1)) (hx : x = false) : dAnd f g Γ = .val (.d true (.bool false), Γ1) := by
  subst hx
  unfold dAnd; rw [h1]; rfl
abbrev Dk3 := Int × Int × Int
abbrev dk (d : Dk3) : Cl := .lst [.int d.1, .int d.2.1, .int d.2.2]
def BB (d : Dk3) (B : Nat) : Prop := 0 ≤ d.2.1 ∧ d.2.1 ≤ (B : Int)
theorem BB.mono {d : Dk3} {B C : Nat} (h : BB d B) (hc : B ≤ C) : BB d C := ⟨h.1, by have := h.2; omega⟩
theorem netOk_snoc {net : List (List Int)} {row : List Int} (h : NetOk net) (h1 : ∀ e ∈ row, 0 ≤ e ∧ e < (net.length : Int)) (h2 : row.Pairwise (· < ·)) : NetOk (net ++ [row]) := by
  intro k r hr
  by_cases hk : k < net.length
  · rw [List.getElem?_append_left hk] at hr
    exact h k r hr
  · have hk2 : k < (net ++ [row]).length := (List.getElem?_eq_some_iff.mp hr).1
    simp at hk2
    have : k = net.length := by omega
    subst this
    simp at hr
    subst hr
    exact ⟨h1, h2⟩
end PD
set_option linter.all false
set_option maxRecDepth 100000
set_option maxHeartbeats 0
set_option autoImplicit false
namespace PD
open PySem L2
theorem x_cut0 {Γ Γ1 Γ2 : List Sl} {f : DF} {o : DO} {a : AV} {ds : List PyData} {n : Int} (h1 : f Γ = .val (a, Γ1)) (h2 : o Γ1 = .val (some n, Γ2)) (h3 : lsA Γ2 a = some ds) (hn : 0 ≤ n) : xCut f oNone o Γ = .val (.c (.lst (ds.take n.toNat)), Γ2) := by
  unfold xCut
  rw [h1, bind_val]
  show ((o Γ1).bind _) = _
  rw [h2, bind_val]
  unfold cutX
  simp only [h3]
  show R.val (Rs.c (Cl.lst (cutD ds none (some n))), Γ2) = _
  have : cutD ds none (some n) = ds.take n.toNat := by
    obtain ⟨k, rfl⟩ : ∃ k : Nat, n = (k : Int) := ⟨n.toNat, by omega⟩
    unfold cutD
    rw [HT.sIx_none, HT.sIx_nat, List.drop_zero, Nat.sub_zero, Int.toNat_natCast]
    by_cases h : k ≤ ds.length
    · rw [Nat.min_eq_left h]
    · rw [Nat.min_eq_right (by omega), List.take_length, List.take_of_length_le (by omega)]
  rw [this]
theorem o_some {Γ Γ1 : List Sl} {f : DF} {fr : Bool} {n : Int} (h : f Γ = .val (.d fr (.int n), Γ1)) : oSome f Γ = .val (some n, Γ1) := by unfold oSome; rw [h]; rfl
end PD
set_option linter.all false
set_option maxRecDepth 100000
set_option maxHeartbeats 0
set_option autoImplicit false
namespace PD
open PySem L2
theorem cellAt_t (ns : List Int) (k : Nat) : ∃ x : Int, u_qcell_at [.d (dL ns), .d (.int (k : Nat))] = .val (.d (.int x), [.un, .un]) := by
  have key : Ok (u_qcell_at [.d (dL ns), .d (.int (k : Nat))]) fun z => ∃ x : Int, z = (.d (.int x), [.un, .un]) := by
    refine ok_run rfl ?_
    unfold b_qcell_at
    apply_assumption
    · intro hz
      have hk : k < ns.length := by simpa using hz
      and_intros
      apply w_retF
      · apply e_ixL
        · exact e_var rfl
        · exact e_var rfl
        · exact at_nat (List.getElem?_eq_getElem hk)
      · rfl
      exact ⟨_, _, rfl, rfl, _, rfl⟩
    · intro _
      nofun
      exact ⟨_, _, rfl, rfl, 0, rfl⟩
  obtain ⟨z, e, x, rfl⟩ := key
  exact ⟨x, e⟩
theorem feed_t (ns : List Int) (k : Nat) : ∃ d : Dk3, u_qfeed [.d (dL ns), .d (.int (k : Nat))] = .val (.c (dk d), [.un, .un]) := by
  have key : Ok (u_qfeed [.d (dL ns), .d (.int (k : Nat))]) fun z => ∃ d : Dk3, z = (.c (dk d), [.un, .un]) := by
    refine ok_run rfl ?_
    unfold b_qfeed
    obtain ⟨x, hx⟩ := cellAt_t ns k
    apply w_retC
    · refine c_l (n_lst (a_cons (e_x (x_call (a_cons (e_var rfl) (a_cons (e_var rfl) a_nil)) rfl hx) rfl) (a_cons e_C (a_cons (e_frzD (e_var rfl)) a_nil))) rfl rfl)
    exact ⟨_, _, rfl, rfl, (x, 0, (k : Int)), rfl⟩
  obtain ⟨z, e, d, rfl⟩ := key
  exact ⟨d, e⟩
theorem take_t (d : Dk3) (m : Int) (hm : 0 < m) (hm2 : m < 2 ^ 64) : ∃ (r : Int) (d' : Dk3), u_qtake [.c (dk d), .d (.int m)] = .val (.d (.int r), [.io (dk d'), .un]) ∧ 0 ≤ r ∧ r < m := by
  have key : Ok (u_qtake [.c (dk d), .d (.int m)]) fun z => ∃ (r : Int) (d' : Dk3), z = (.d (.int r), [.io (dk d'), .un]) ∧ 0 ≤ r ∧ r < m := by
    refine ok_run rfl ?_
    unfold b_qtake
    apply w_put
    · exact e_frz (e_add (e_ixS (e_varI rfl) e_C rfl rfl) e_C)
    · rfl
    · exact e_C
    · rfl
    · exact putC_lst (j := 1) (by simp)
    apply_assumption
    · intro _
      bv_decide
      ac_rfl
      and_intros
      apply w_put
      · exact e_frz (e_I (e_ixS (e_varI rfl) e_C rfl rfl) (e_var rfl) (k_div (divP hm hm2)))
      · rfl
      · exact e_C
      · rfl
      · exact putC_lst (j := 0) (by simp)
      nofun
      exact ⟨_, _, rfl, rfl, _, (d.1 / m, d.2.1 + 1, d.2.2), rfl, Int.emod_nonneg _ (by omega), Int.emod_lt_of_pos _ hm⟩
    · intro _
      bv_decide
      ac_rfl
      bv_decide
      ac_rfl
      nofun
      ac_rfl
      exact ⟨_, _, rfl, rfl, _, (d.1, d.2.1 + 1, d.2.2), rfl, Int.emod_nonneg _ (by omega), Int.emod_lt_of_pos _ hm⟩
  obtain ⟨z, e, r, d', rfl, h⟩ := key
  exact ⟨r, d', e, h⟩
theorem net_t (d : Dk3) (most : Nat) (h1 : 1 ≤ most) (h2 : most ≤ 100) : ∃ (net : List (List Int)) (d' : Dk3), u_qnet_k12 [.c (dk d), .d (.int (most : Nat))] = .val (.d (dTT net), [.io (dk d'), .un]) ∧ NetOk net ∧ 1 ≤ net.length ∧ net.length ≤ most := by
  have key : Ok (u_qnet_k12 [.c (dk d), .d (.int (most : Nat))]) fun z => ∃ (net : List (List Int)) (d' : Dk3), z = (.d (dTT net), [.io (dk d'), .un]) ∧ NetOk net ∧ 1 ≤ net.length ∧ net.length ≤ most := by
    refine ok_run rfl ?_
    unfold b_qnet_k12
    obtain ⟨r1, d1, hr1, r10, r11⟩ := take_t d (most : Nat) (by omega) (by omega)
    obtain ⟨r2, d2, hr2, r20, r21⟩ := take_t d1 8 (by omega) (by omega)
    bv_decide
    bv_decide
    bv_decide
    clear hr1 hr2
    refine w_forR (N := 1 + r1) (S := List (List Int) × Dk3) (fun i s => s.1.length = i ∧ NetOk s.1) (fun s => [.io (dk s.2), .dat true (.int (most : Nat)), .dat true (.int (1 + r1)), .dat true (.int r2), .own (.lst (s.1.map fun r => dT r)), .un, .un, .un, .un, .un]) ([], d2) (i_range1 (e_var rfl) (cRng_of (by decide) (by decide) (by omega) (by omega))) rfl ⟨rfl, fun k r hr => by simp at hr⟩ ?_ ?_
    · rintro i ⟨net, d3⟩ hi ⟨hl, hN⟩
      dsimp only at hl hN ⊢
      refine ⟨_, rfl, ?_⟩
      bv_decide
      refine w_forR (N := (i : Nat)) (S := List Int × Dk3) (fun j s => s.1.length ≤ j ∧ (∀ e ∈ s.1, 0 ≤ e ∧ e < (j : Int)) ∧ s.1.Pairwise (· < ·)) (fun s => [.io (dk s.2), .dat true (.int (most : Nat)), .dat true (.int (1 + r1)), .dat true (.int r2), .own (.lst (net.map fun r => dT r)), .dat true (.int (i : Nat)), .own (.lst (s.1.map PyData.int)), .un, .un, .un]) ([], d3) (i_range1 (e_var rfl) (cRng_of (by decide) (by decide) (by omega) (by omega))) rfl ⟨by simp, by simp, by simp⟩ ?_ ?_
      · rintro j ⟨row, d4⟩ hj ⟨g1, g2, g3⟩
        dsimp only at g1 g2 g3 ⊢
        refine ⟨_, rfl, ?_⟩
        bv_decide
        obtain ⟨b, hb⟩ : ∃ b : Bool, atI [PyData.bool (decide ((i : Int) - j = 1)), .bool (decide ((j : Int) = 0)), .bool (decide ((i : Int) - j = 2)), .bool (decide ((i : Int) - j = 2 - (i : Int) % 2)), .bool false] (min2 r2 4) = some (.bool b) := by
          have : min2 r2 4 = 0 ∨ min2 r2 4 = 1 ∨ min2 r2 4 = 2 ∨ min2 r2 4 = 3 ∨ min2 r2 4 = 4 := by unfold min2; split <;> omega
          rcases this with e | e | e | e | e <;> rw [e] <;> exact ⟨_, rfl⟩
        apply w_set
        · apply e_frz
          apply e_ixL
          · apply e_ofN
            apply n_lst
            · apply a_cons
              · array_mem_dec
              · apply a_cons
                · array_mem_dec
                · apply a_cons
                  · array_mem_dec
                  · apply a_cons
                    · apply e_cmp
                      · array_mem_dec
                      · apply e_I
                        · array_mem_dec
                        · apply e_I
                          · array_mem_dec
                          · array_mem_dec
                          · exact k_mod (modP (by decide))
                        · exact k_sub
                      · exact k_eqI
                    · array_mem_dec
            · rfl
            · rfl
          · array_mem_dec
          · exact hb
        have fin : ∀ (z : Bool) (d5 : Dk3), W (bSeq (bIf (dTst (dVar 9)) (bSeq (bExpr (dLm 6 qAppend (dAc (dFrz (dVar 7)) dA0))) bNil) bNil) bNil)
            [.io (dk d5), .dat true (.int (most : Nat)), .dat true (.int (1 + r1)), .dat true (.int r2), .own (.lst (net.map fun r => dT r)), .dat true (.int (i : Nat)), .own (.lst (row.map PyData.int)), .dat true (.int (j : Nat)), .dat true (.int ((i : Nat) - (j : Nat))), .dat true (.bool z)]
            (fun w Γ2 => w = .nx ∧ ∃ s : List Int × Dk3, wipeG Γ2 [7, 8, 9] = [.io (dk s.2), .dat true (.int (most : Nat)), .dat true (.int (1 + r1)), .dat true (.int r2), .own (.lst (net.map fun r => dT r)), .dat true (.int (i : Nat)), .own (.lst (s.1.map PyData.int)), .un, .un, .un] ∧ s.1.length ≤ j + 1 ∧ (∀ e ∈ s.1, 0 ≤ e ∧ e < ((j + 1 : Nat) : Int)) ∧ s.1.Pairwise (· < ·)) := by
          intro z d5
          apply_assumption
          · intro _
            and_intros
            apply w_expr
            · apply e_ap
              · rfl
              · exact e_frz (e_var rfl)
              · rfl
              · exact ltS_map (by omega)
            and_intros
            refine w_nil ⟨rfl, (row ++ [(j : Int)], d5), by rw [List.map_append]; rfl, by simp; omega, fun e he => ?_, ?_⟩
            · rcases List.mem_append.mp he with h | h
              · have := g2 e h; omega
              · have : e = (j : Int) := by simpa using h
                omega
            · rw [List.pairwise_append]
              refine ⟨g3, by simp, fun a ha b hb => ?_⟩
              have h4 : b = (j : Int) := by simpa using hb
              have := (g2 a ha).2
              omega
          · intro _
            and_intros
            exact w_nil ⟨rfl, (row, d5), rfl, Nat.le_succ_of_le g1, fun e he => by have := g2 e he; omega, g3⟩
        have wk : ∀ {b : DS} {Γ : List Sl} {Q : Fw → List Sl → Prop} {R : List Sl → Prop}, W b Γ (fun w Γ2 => w = .nx ∧ R Γ2) → (∀ Γ2, R Γ2 → Q .nx Γ2) → W b Γ Q := fun h k => h.mono fun z hz => by
          obtain ⟨w, Γ2⟩ := z
          obtain ⟨rfl, h⟩ := hz
          exact k Γ2 h
        apply_assumption
        · intro hz
          have hz : 4 < r2 := by simpa using hz
          obtain ⟨q, d5, hq, q0, q1⟩ := take_t d4 (r2 - 3) (by omega) (by omega)
          bv_decide
          exact wk (fin _ d5) fun Γ2 ⟨s, e1, e2⟩ => ⟨s, e1, e2⟩
        · intro _
          and_intros
          exact wk (fin b d4) fun Γ2 ⟨s, e1, e2⟩ => ⟨s, e1, e2⟩
      · rintro ⟨row, d4⟩ ⟨g1, g2, g3⟩
        dsimp only at g1 g2 g3 ⊢
        apply w_expr
        · apply e_ap
          · rfl
          · apply e_frz
            apply e_B
            · exact a_cons (e_varO rfl) a_nil
            · exact k_tup rfl
          · rfl
          · exact ltS_map (by omega)
        exact w_nil ⟨(net ++ [row], d4), by rw [List.map_append]; rfl, by simp; omega, netOk_snoc hN (fun e he => by have := g2 e he; omega) g3⟩
    · rintro ⟨net, d4⟩ ⟨hl, hN⟩
      dsimp only at hl hN ⊢
      apply w_ret
      · exact e_B (a_cons (e_varO rfl) a_nil) (k_tup rfl)
      exact ⟨_, _, rfl, rfl, net, d4, rfl, hN, by omega, by omega⟩
  obtain ⟨z, e, net, d', rfl, h⟩ := key
  exact ⟨net, d', e, h⟩
end PD
set_option linter.all false
set_option maxRecDepth 100000
set_option autoImplicit false
namespace PD
open PySem L2
inductive BarD : PyData → List Int → Prop
  | l (ns : List Int) : BarD (dL ns) ns
  | t (ns : List Int) : BarD (dT ns) ns
  | n : BarD .none []
end PD
set_option linter.all false
set_option maxRecDepth 100000
set_option maxHeartbeats 0
set_option autoImplicit false
namespace PD
open PySem L2
end PD
set_option linter.all false
set_option maxRecDepth 100000
set_option maxHeartbeats 0
set_option autoImplicit false
namespace PD
open PySem L2
abbrev pI : Int × Int → PyData := fun z => .tuple [.int z.1, .int z.2]
abbrev sD (st : List (Int × Int)) : PyData := .tuple (st.map pI)
def spk (b : Int) (ans : Str) (m : Int) : Bool := if ans = Str.ofString "bad" then !inb b m else (decide (ans = Str.ofString "good") && inb b m)
theorem speaks_q (bs : List Int) (t : Nat) (b : Int) (ht : bs[t]? = some b) (ans : Str) (ha : PyData.strOk ans = true) (m : Int) (hm : 0 ≤ m) : u_p_speaks [.d (dL bs), .d (.tuple [.int (t : Nat), .str ans]), .d (.int m)] = .val (.d (.bool (spk b ans m)), [.un, .un, .un]) := by
  have ei := isIn_q b m hm
  refine ok_eq (ok_run rfl ?_)
  unfold b_p_speaks
  apply w_setG
  · exact e_frzT (e_var rfl) rfl
  · rfl
  have hix : ∀ s1 s4, eX (xCall uIsIn [] (dAc (dIxB (dVar 0) (dVar 3)) (dAc (dVar 2) dA0))) [.dat false (dL bs), s1, .dat true (.int m), .dat true (.int (t : Nat)), s4] = .val (.d true (.bool (inb b m)), [.dat false (dL bs), s1, .dat true (.int m), .dat true (.int (t : Nat)), s4]) := fun s1 s4 => e_x (x_call (a_cons (e_ixL (e_var rfl) (e_var rfl) (at_nat ht)) (a_cons (e_var rfl) a_nil)) rfl ei) rfl
  apply w_ifB
  · exact t_tst (e_cmp (e_var rfl) e_C (k_eqS ha (by decide +kernel)))
  · intro hz
    have hz : ans = Str.ofString "bad" := by simpa using hz
    and_intros
    apply w_ret
    · exact e_not (hix _ _)
    refine ⟨_, _, rfl, rfl, ?_⟩
    unfold spk
    rw [if_pos hz]
  · intro hz
    have hz : ¬ ans = Str.ofString "bad" := by simpa using hz
    and_intros
    apply w_ret
    · exact e_and (e_cmp (e_var rfl) e_C (k_eqS ha (by decide +kernel))) fun _ => hix _ _
    refine ⟨_, _, rfl, rfl, ?_⟩
    unfold spk
    rw [if_neg hz]
end PD
set_option linter.all false
set_option maxRecDepth 100000
set_option maxHeartbeats 0
set_option autoImplicit false
namespace PD
open PySem L2
abbrev oneD (ks : List Int) : List (Int × PyData) := ks.map fun k => (k, PyData.bool true)
abbrev dOne (ks : List Int) : PyData := .dict (dKV (oneD ks))
theorem look_one (ks : List Int) (k : Int) : (lookI (oneD ks) k).isSome = decide (k ∈ ks) := by
  induction ks with
  | nil => rfl
  | cons x r ih =>
    show (lookI ((x, PyData.bool true) :: oneD r) k).isSome = _
    rw [lookI_cons]
    by_cases h : x = k
    · simp [h]
    · rw [if_neg h, ih]
      have : k ≠ x := fun z => h z.symm
      simp [this]
def addK (ks : List Int) (k : Int) : List Int := if k ∈ ks then ks else ks ++ [k]
theorem put_one (ks : List Int) (k : Int) : putI (oneD ks) k (.bool true) = oneD (addK ks k) := by
  unfold putI addK
  rw [any_lookI, look_one]
  by_cases h : k ∈ ks
  · rw [decide_eq_true h, if_pos rfl, if_pos h, List.map_map]
    apply List.map_congr_left
    intro z _
    by_cases e : z = k <;> simp [e]
  · rw [decide_eq_false h, if_neg (by simp), if_neg h]
    show oneD ks ++ [(k, PyData.bool true)] = (ks ++ [k]).map fun k => (k, PyData.bool true)
    rw [List.map_append]
    rfl
theorem add_mem {ks : List Int} {k y : Int} : y ∈ addK ks k ↔ y ∈ ks ∨ y = k := by
  unfold addK
  split
  · rename_i h
    constructor
    · exact .inl
    · rintro (h2 | rfl)
      · exact h2
      · exact h
  · simp
theorem add_nd {ks : List Int} {k : Int} (h : ks.Nodup) : (addK ks k).Nodup := by
  unfold addK
  split
  · exact h
  · rename_i hk
    rw [List.nodup_append]
    exact ⟨h, by simp, fun a ha b hb => by
      have : b = k := by simpa using hb
      subst this
      exact fun z => hk (by rw [← z]; exact ha)⟩
theorem add_ne {ks : List Int} {k : Int} : addK ks k ≠ [] := fun e => by
  have : k ∈ addK ks k := add_mem.mpr (.inr rfl)
  rw [e] at this
  cases this
theorem one_ne {ks : List Int} (h : ks ≠ []) : oneD ks ≠ [] := fun e => h (List.map_eq_nil_iff.mp e)
theorem k_inOne {Γ : List Sl} {fr fr2 : Bool} {k : Int} {ks : List Int} (h : ks ≠ []) : kInB Γ (.d fr (.int k)) (.d fr2 (dOne ks)) = .val (decide (k ∈ ks)) := by
  rw [← look_one]
  exact k_inKD (one_ne h)
theorem i_keyOne {Γ Γ1 : List Sl} {f : DF} {fr : Bool} {ks : List Int} (h1 : f Γ = .val (.d fr (dOne ks), Γ1)) (h : ks ≠ []) : iKeyD f Γ = .val ((ks.map PyData.int, true), Γ1) := by
  unfold iKeyD
  rw [h1, bind_val]
  unfold keyA
  simp only [kindKV (one_ne h)]
  show R.val (((dKV (oneD ks)).map (·.1), true), Γ1) = _
  congr 3
  simp [dKV, oneD, List.map_map, Function.comp_def]
theorem e_frzK {Γ Γ1 : List Sl} {f : DF} {m : Nat} {t : Dk} {kvs : List (PyData × PyData)} (h1 : f Γ = .val (.s m, Γ1)) (h2 : Γ1[m]? = some (.own (.dic t kvs))) : dFrzK f Γ = .val (.d true (.dict kvs), Γ1.set m (.dat true (.dict kvs))) := by
  unfold dFrzK; rw [h1, bind_val]; simp only [frzK, h2]
theorem e_apK {Γ Γ1 : List Sl} {f : DF} {d : PyData} {ds es : List PyData} {m : Nat} {io : Bool} (h0 : cellL Γ m = some (io, es)) (h1 : dFrzK f Γ = .val (.d true d, Γ1)) (h2 : cellL Γ1 m = some (io, ds)) (h3 : ltS ds = true) : dLm m qAppend (dAc (dFrzK f) dA0) Γ = .val (.d true .none, Γ1.set m (mkS io (.lst (ds ++ [d])))) := by
  unfold dLm
  rw [h0, ofO_some, bind_val, a_cons h1 a_nil, bind_val, h2, ofO_some, bind_val]
  show ((qAppend ds [.d true d]).bind _) = _
  unfold qAppend
  simp only [h3]
  rfl
def Ow (n : Nat) (ks : List Int) (P : Nat → Prop) : Prop := ks.Nodup ∧ (∀ y ∈ ks, 0 ≤ y ∧ y < (n : Int)) ∧ ks ≠ [] ∧ ∀ j : Nat, (j : Int) ∈ ks ↔ P j
theorem Ow.iff {n : Nat} {ks : List Int} {P Q : Nat → Prop} (h : Ow n ks P) (e : ∀ j, P j ↔ Q j) : Ow n ks Q := ⟨h.1, h.2.1, h.2.2.1, fun j => (h.2.2.2 j).trans (e j)⟩
theorem Ow.add {n : Nat} {ks : List Int} {P : Nat → Prop} (h : Ow n ks P) {k : Nat} (hk : k < n) : Ow n (addK ks (k : Int)) (fun j => P j ∨ j = k) := by
  refine ⟨add_nd h.1, fun y hy => ?_, add_ne, fun j => ?_⟩
  · rcases add_mem.mp hy with h2 | rfl
    · exact h.2.1 y h2
    · omega
  · rw [add_mem, h.2.2.2]
    constructor
    · rintro (h | h)
      · exact .inl h
      · exact .inr (by omega)
    · rintro (h | h)
      · exact .inl h
      · exact .inr (by omega)
theorem Ow.len {n : Nat} {ks : List Int} {P : Nat → Prop} (h : Ow n ks P) : ks.length ≤ n := nodup_len n ks h.1 h.2.1
def FromOk (net : List (List Int)) (rs : List (List Int)) : Prop := ∀ (k : Nat) (r : List Int), rs[k]? = some r → Ow (k + 1) r (Anc net k)
theorem from_t (net : List (List Int)) (hN : NetOk net) (hn : net.length ≤ 1000) : ∃ rs : List (List Int), u_qfrom [.d (dTT net)] = .val (.c (.lst (rs.map dOne)), [.un]) ∧ rs.length = net.length ∧ FromOk net rs := by
  have key : Ok (u_qfrom [.d (dTT net)]) fun z => ∃ rs : List (List Int), z = (.c (.lst (rs.map dOne)), [.un]) ∧ rs.length = net.length ∧ FromOk net rs := by
    refine ok_run rfl ?_
    unfold b_qfrom
    bv_decide
    refine w_forE (enc := fun r => dT r) net (S := List (List Int)) (fun i rs => rs.length = i ∧ FromOk net rs) (fun rs => [.dat false (dTT net), .own (.lst (rs.map dOne)), .un, .un, .un, .un, .un]) [] (i_enumT (e_var rfl)) rfl ⟨rfl, fun k r h => by simp at h⟩ ?_ ?_
    · rintro i row rs hrow ⟨hl, hA⟩
      have hi : i < net.length := (List.getElem?_eq_some_iff.mp hrow).1
      obtain ⟨hr1, hr2⟩ := hN i row hrow
      refine ⟨_, rfl, ?_⟩
      apply w_setX
      · exact x_c (show nDic1 2 (.bool true) _ = _ from rfl)
      refine w_forL (enc := PyData.int) row (S := List Int) (fun j ks => Ow (i + 1) ks (fun y => y = i ∨ ∃ e : Nat, (e : Int) ∈ row.take j ∧ Anc net e y)) (fun ks => [.dat false (dTT net), .own (.lst (rs.map dOne)), .dat false (.int (i : Nat)), .dat false (dT row), .own (.dic .k (dKV (oneD ks))), .un, .un]) [(i : Int)] (i_seqT (e_var rfl)) rfl ⟨by simp, by simp; omega, by simp, fun j => by simp; omega⟩ ?_ ?_
      · rintro j x ks hx hK
        have hx2 := hr1 x (mem_at hx)
        obtain ⟨m, rfl⟩ : ∃ m : Nat, x = (m : Int) := ⟨x.toNat, by omega⟩
        obtain ⟨r, hr⟩ : ∃ r, rs[m]? = some r := ⟨_, List.getElem?_eq_getElem (by omega)⟩
        have hR := hA m r hr
        refine ⟨_, rfl, ?_⟩
        refine w_forL (enc := PyData.int) r (S := List Int) (fun t ks => Ow (i + 1) ks (fun y => (y = i ∨ ∃ e : Nat, (e : Int) ∈ row.take j ∧ Anc net e y) ∨ (y : Int) ∈ r.take t)) (fun ks => [.dat false (dTT net), .own (.lst (rs.map dOne)), .dat false (.int (i : Nat)), .dat false (dT row), .own (.dic .k (dKV (oneD ks))), .dat false (.int (m : Nat)), .un]) ks (i_keyOne (e_ixS (e_varO rfl) (e_var rfl) rfl (at_nat hr)) hR.2.2.1) rfl (hK.iff fun y => by simp) ?_ ?_
        · rintro t y ks hy hK
          have hy2 := hR.2.1 y (mem_at hy)
          obtain ⟨b, rfl⟩ : ∃ b : Nat, y = (b : Int) := ⟨y.toNat, by omega⟩
          have hlen := hK.len
          refine ⟨_, rfl, ?_⟩
          apply w_put
          · exact e_C
          · rfl
          · exact e_var rfl
          · rfl
          · exact putC_kv (by rw [List.length_map]; omega)
          refine w_nil ⟨addK ks (b : Int), by rw [put_one]; rfl, (hK.add (show b < i + 1 by omega)).iff fun z => ?_⟩
          rw [take_step hy, List.mem_append]
          have : z = b ↔ (z : Int) ∈ [(b : Int)] := by simp; omega
          rw [this, or_assoc]
        · rintro ks hK
          rw [List.take_length] at hK
          refine w_nil ⟨ks, rfl, hK.iff fun y => ?_⟩
          rw [take_step hx, hR.2.2.2, or_assoc]
          constructor
          · rintro (h | ⟨e, h1, h2⟩ | h)
            · exact .inl h
            · exact .inr ⟨e, List.mem_append_left _ h1, h2⟩
            · exact .inr ⟨m, List.mem_append_right _ (by simp), h⟩
          · rintro (h | ⟨e, h1, h2⟩)
            · exact .inl h
            · rcases List.mem_append.mp h1 with h1 | h1
              · exact .inr (.inl ⟨e, h1, h2⟩)
              · have : e = m := by simp at h1; omega
                subst this
                exact .inr (.inr h2)
      · rintro ks hK
        rw [List.take_length] at hK
        apply w_expr
        · apply e_apK
          · rfl
          · exact e_frzK (e_varO rfl) rfl
          · rfl
          · exact ltS_map (by omega)
        refine w_nil ⟨rs ++ [ks], by rw [List.map_append]; rfl, by simp [hl], fun k r hk => ?_⟩
        by_cases hk2 : k < rs.length
        · rw [List.getElem?_append_left hk2] at hk
          exact hA k r hk
        · have hk3 : k < (rs ++ [ks]).length := (List.getElem?_eq_some_iff.mp hk).1
          have : k = i := by simp at hk3; omega
          subst this
          rw [List.getElem?_append_right (by omega), hl, Nat.sub_self] at hk
          have hk : ks = r := by simpa using hk
          subst hk
          exact hK.iff fun y => (anc_iff hrow).symm
    · rintro rs ⟨hl, hA⟩
      apply w_retO
      · rfl
      exact ⟨_, _, rfl, rfl, rs, rfl, hl, hA⟩
  obtain ⟨z, e, rs, rfl, h⟩ := key
  exact ⟨rs, e, h⟩
def ansL : List Str := ["good", "bad", "cannot"]
end PD
set_option linter.all false
set_option maxRecDepth 100000
set_option autoImplicit false
namespace PD
open PySem L2
end PD
set_option linter.all false
set_option maxRecDepth 100000
set_option maxHeartbeats 0
set_option autoImplicit false
namespace PD
open PySem L2
abbrev Tr := Int × Str
abbrev pT : Tr → PyData := fun q => .tuple [.int q.1, .str q.2]
abbrev tsD (tp : Bool) (ts : List Tr) : PyData := if tp then .tuple (ts.map pT) else .list (ts.map pT)
def TrOk (n : Nat) (ts : List Tr) : Prop := ∀ q ∈ ts, 0 ≤ q.1 ∧ q.1 < (n : Int) ∧ q.2 ∈ ansL
theorem sc_tsD {tp : Bool} {ts : List Tr} : scD (tsD tp ts) = false := by cases tp <;> rfl
theorem enumD_map {α : Type} (enc : α → PyData) (xs : List α) : enumD (xs.map enc) = xs.zipIdx.map fun z => .tuple [.int (z.2 : Nat), enc z.1] := by
  unfold enumD
  apply List.ext_getElem?
  intro i
  simp only [List.getElem?_mapIdx, List.getElem?_map, List.getElem?_zipIdx, Option.map_map]
  cases xs[i]? <;> simp
theorem i_enumTs {Γ Γ1 : List Sl} {f : DF} {fr tp : Bool} {ts : List Tr} (h1 : f Γ = .val (.d fr (tsD tp ts), Γ1)) : iEnum f Γ = .val ((enumD (ts.map pT), fr), Γ1) := by
  cases tp
  · exact i_enumL h1
  · exact i_enumT h1
theorem ans_okP {ans : Str} (ha : ans ∈ ansL) : PyData.strOk ans = true := by
  simp only [ansL, List.mem_cons, List.not_mem_nil, or_false] at ha
  rcases ha with rfl | rfl | rfl <;> decide +kernel
theorem eqt_pI : EqT pI 1 := by
  have h := eqt_tup eqt_int
  refine ⟨fun x => h.1 [x.1, x.2], fun x => h.2 [x.1, x.2], fun x y => ?_⟩
  have := h.3 [x.1, x.2] [y.1, y.2]
  refine this.trans ?_
  rw [decide_eq_decide]
  constructor
  · intro e
    simp only [List.cons.injEq, and_true] at e
    exact Prod.ext e.1 e.2
  · rintro rfl; rfl
theorem flatA_pT (ts : List Tr) : flat.flatA (ts.map pT) = true := by
  induction ts with
  | nil => rfl
  | cons q r ih => rw [List.map_cons]; unfold flat.flatA; rw [ih]; rfl
theorem k_neRef {Γ : List Sl} {a b : AV} {p : PyData} (h1 : rdD Γ a = some p) (h2 : rdD Γ b = some p) (s : SeqAt.shaped p = true) (l : p.canLay0 = true) : kNe Γ a b = .val false := k_ne h1 h2 s s (PySem.SeqAt.eqv_refl p l)
theorem check_ok (net : List (List Int)) (tp : Bool) (ts : List Tr) (hts : TrOk net.length ts) (hl : ts.length < 2 ^ 20) : u_p_check_trials [.d (dTT net), .d (tsD tp ts)] = .val (.d .none, [.un, .un]) := by
  refine ok_eq (ok_run rfl ?_)
  unfold b_p_check_trials
  have e0 : initS 5 [Ar.d (dTT net), Ar.d (tsD tp ts)] = [.dat false (dTT net), .dat false (tsD tp ts), .un, .un, .un] := by
    unfold initS arS; simp only [List.map_cons, sc_tsD]; rfl
  rw [e0]
  refine w_forE (enc := pT) ts (S := Unit) (fun _ _ => True) (fun _ => [.dat false (dTT net), .dat false (tsD tp ts), .un, .un, .un]) () (i_enumTs (e_var rfl)) rfl trivial ?_ ?_
  · rintro i q _ hq _
    obtain ⟨h1, h2, ha⟩ := hts q (mem_at hq)
    refine ⟨_, rfl, ?_⟩
    have hin : dInG true [.str "good", .str "bad", .str "cannot"] (dVar 4) [.dat false (dTT net), .dat false (tsD tp ts), .dat false (.int (i : Nat)), .dat false (.int q.1), .dat false (.str q.2)] = .val (.d true (.bool false), [.dat false (dTT net), .dat false (tsD tp ts), .dat false (.int (i : Nat)), .dat false (.int q.1), .dat false (.str q.2)]) := by
      simp only [ansL, List.mem_cons, List.not_mem_nil, or_false] at ha
      rcases ha with e | e | e <;> rw [e] <;> rfl
    apply w_ifN
    · exact t_or (t_tst (e_cmp (e_var rfl) e_C k_I)) fun _ => t_or (t_tst (e_cmp (e_var rfl) (e_B (a_cons (e_var rfl) a_nil) (k_lenJ rfl)) k_I)) fun _ => t_tst hin
    · simp; omega
    and_intros
    exact w_nil ⟨(), rfl, trivial⟩
  · rintro ⟨⟩ _
    exact w_nil ⟨_, _, rfl, rfl, rfl⟩
def spm (bs : List Int) (q : Tr) (m : Int) : Bool := match bs[q.1.toNat]? with
  | some b => spk b q.2 m
  | none => false
def plcs (bs : List Int) (ts : List Tr) (m : Int) : List Int := (ts.zipIdx.filter fun z => spm bs z.1 m).map fun z => ((z.2 : Nat) : Int)
def cnt (bs : List Int) (ts : List Tr) (m : Int) : Int := ((ts.filter fun q => spm bs q m).length : Nat)
theorem zipF {α : Type} (p : α → Bool) : ∀ (xs : List α) (k : Nat), ((xs.zipIdx k).filter fun z => p z.1).length = (xs.filter p).length
  | [], _ => rfl
  | x :: xs, k => by
    rw [List.zipIdx_cons, List.filter_cons, List.filter_cons]
    cases h : p x
    · simpa [h] using zipF p xs (k + 1)
    · simpa [h] using zipF p xs (k + 1)
theorem plcs_len (bs : List Int) (ts : List Tr) (m : Int) : (((plcs bs ts m).length : Nat) : Int) = cnt bs ts m := by
  unfold plcs cnt
  rw [List.length_map]
  exact congrArg Int.ofNat (zipF (fun q => spm bs q m) ts 0)
theorem plcs_le (bs : List Int) (ts : List Tr) (m : Int) : (plcs bs ts m).length ≤ ts.length := by
  unfold plcs
  rw [List.length_map]
  exact Nat.le_trans (Nat.le_of_eq (zipF (fun q => spm bs q m) ts 0)) (List.length_filter_le _ _)
theorem speaks_m (bs : List Int) (q : Tr) (h1 : 0 ≤ q.1) (h2 : q.1 < (bs.length : Int)) (ha : q.2 ∈ ansL) (m : Int) (hm : 0 ≤ m) : u_p_speaks [.d (dL bs), .d (pT q), .d (.int m)] = .val (.d (.bool (spm bs q m)), [.un, .un, .un]) := by
  obtain ⟨t, ans⟩ := q
  dsimp only at h1 h2 ha ⊢
  obtain ⟨t, rfl⟩ : ∃ k : Nat, t = (k : Int) := ⟨t.toNat, by omega⟩
  obtain ⟨b, hb⟩ : ∃ b, bs[t]? = some b := ⟨_, List.getElem?_eq_getElem (by omega)⟩
  have := speaks_q bs t b hb ans (ans_okP ha) m hm
  rw [this]
  unfold spm
  simp only [Int.toNat_natCast, hb]
theorem places_q (bs : List Int) (tp : Bool) (ts : List Tr) (hts : TrOk bs.length ts) (hl : ts.length < 2 ^ 20) (m : Int) (hm : 0 ≤ m) : u_p_places_against [.d (dL bs), .d (tsD tp ts), .d (.int m)] = .val (.c (.lst ((plcs bs ts m).map PyData.int)), [.un, .un, .un]) := by
  refine ok_eq (ok_run rfl ?_)
  unfold b_p_places_against
  have e0 : initS 5 [Ar.d (dL bs), Ar.d (tsD tp ts), Ar.d (.int m)] = [.dat false (dL bs), .dat false (tsD tp ts), .dat true (.int m), .un, .un] := by
    unfold initS arS; simp only [List.map_cons, sc_tsD]; rfl
  rw [e0]
  have hit := i_enumTs (tp := tp) (ts := ts) (e_var (Γ := [.dat false (dL bs), .dat false (tsD tp ts), .dat true (.int m), .un, .un]) (m := 1) rfl)
  rw [enumD_map] at hit
  have hc := n_comp (enc := fun z : Tr × Nat => .tuple [.int (z.2 : Nat), pT z.1]) ts.zipIdx (fun z => spm bs z.1 m) (fun z => .int (z.2 : Nat)) (vs := [3, 4]) (g := gT2 (gN 3) (gN 4)) (t := dTst (eX (xCall u_p_speaks [] (dAc (dVar 0) (dAc (dVar 4) (dAc (dVar 2) dA0)))))) (e := dFrz (dVar 3)) hit (by rw [List.length_zipIdx]; exact hl) rfl fun z hz => by
    obtain ⟨q, i⟩ := z
    have hq : q ∈ ts := by
      have := List.mem_zipIdx hz
      rw [this.2.2]
      exact List.getElem_mem _
    obtain ⟨h1, h2, ha⟩ := hts q hq
    refine ⟨_, rfl, rfl, ?_, fun _ => e_frzT (e_var rfl) rfl⟩
    exact t_tst (e_x (x_call (a_cons (e_var rfl) (a_cons (e_var rfl) (a_cons (e_var rfl) a_nil))) rfl (speaks_m bs q h1 h2 ha m hm)) rfl)
  apply w_retC
  · exact c_l hc
  refine ⟨_, _, rfl, rfl, ?_⟩
  show _ = (Rs.c (.lst ((plcs bs ts m).map PyData.int)), _)
  unfold plcs
  rw [List.map_map]
  rfl
def stK (n : Nat) (bs : List Int) (ts : List Tr) (lies : Int) : List (Int × Int) := ((rng 0 (n : Nat)).filter fun m => decide (cnt bs ts m ≤ lies)).map fun m => (m, cnt bs ts m)
theorem rng_mem {n : Nat} {x : Int} : x ∈ rng 0 (n : Nat) ↔ 0 ≤ x ∧ x < (n : Int) := by
  constructor
  · intro h
    obtain ⟨i, hi⟩ := List.getElem?_of_mem h
    obtain ⟨rfl, h2⟩ := rng_at hi
    omega
  · rintro ⟨h1, h2⟩
    have hl : x.toNat < (rng 0 (n : Nat)).length := by rw [rng_len]; omega
    have := List.getElem?_eq_getElem hl
    have e := (rng_at this).1
    have hm := mem_at this
    rw [e] at hm
    have : ((x.toNat : Nat) : Int) = x := by omega
    rwa [this] at hm
theorem stK_mem {n : Nat} {bs : List Int} {ts : List Tr} {lies : Int} {z : Int × Int} : z ∈ stK n bs ts lies ↔ (0 ≤ z.1 ∧ z.1 < (n : Int)) ∧ z.2 = cnt bs ts z.1 ∧ z.2 ≤ lies := by
  unfold stK
  rw [List.mem_map]
  constructor
  · rintro ⟨m, hm, rfl⟩
    rw [List.mem_filter, rng_mem] at hm
    exact ⟨hm.1, rfl, of_decide_eq_true hm.2⟩
  · rintro ⟨h1, h2, h3⟩
    refine ⟨z.1, ?_, by rw [← h2]⟩
    rw [List.mem_filter, rng_mem]
    exact ⟨h1, decide_eq_true (by rw [← h2]; exact h3)⟩
theorem zip_rng {α : Type} (f : Int → α) (n : Nat) : ((rng 0 (n : Nat)).map f).zipIdx = (rng 0 (n : Nat)).map fun m => (f m, m.toNat) := by
  apply List.ext_getElem?
  intro i
  rw [List.getElem?_zipIdx, List.getElem?_map, List.getElem?_map]
  cases h : (rng 0 (n : Nat))[i]? with
  | none => rfl
  | some x =>
    obtain ⟨rfl, _⟩ := rng_at h
    simp
section
variable (net : List (List Int)) (bs : List Int) (eb : uBitsOf [.d (dTT net)] = .val (.c (.lst (bs.map PyData.int)), [.un])) (hbl : bs.length = net.length) (hn : net.length ≤ 1000) (tp : Bool) (ts : List Tr) (hts : TrOk net.length ts) (hl : ts.length < 2 ^ 20) (lies : Int)
abbrev kst (net : List (List Int)) (bs : List Int) (tp : Bool) (ts : List Tr) (lies : Int) : List Sl := [.dat false (dTT net), .dat false (tsD tp ts), .dat true (.int lies), .dat true (dL bs)]
abbrev krows (net : List (List Int)) (bs : List Int) (ts : List Tr) : List (List Int) := (rng 0 (net.length : Nat)).map (plcs bs ts)
include hbl hn hts hl in
theorem rows_e : dOfN (nComp [6] (gN 6) (iRange1 (dB kLen (dAc (dVar 0) dA0))) tYes (dFrz (eX (xCall u_p_places_against [] (dAc (dVar 3) (dAc (dVar 1) (dAc (dVar 6) dA0))))))) (kst net bs tp ts lies ++ [.un, .un, .un, .un]) = .val (.d true (.list ((krows net bs ts).map dL)), kst net bs tp ts lies ++ [.un, .un, .un, .un]) := by
  apply e_ofN
  have h := n_map (enc := PyData.int) (rng 0 (net.length : Nat)) (fun m => dL (plcs bs ts m)) (vs := [6]) (g := gN 6) (it := iRange1 (dB kLen (dAc (dVar 0) dA0))) (e := dFrz (eX (xCall u_p_places_against [] (dAc (dVar 3) (dAc (dVar 1) (dAc (dVar 6) dA0)))))) (Γ := kst net bs tp ts lies ++ [.un, .un, .un, .un]) (i_range1 (e_B (a_cons (e_var rfl) a_nil) (k_lenJ rfl)) (cRng_of (by decide) (by decide) (by omega) (by omega))) (by rw [rng_len]; omega) rfl fun m hm => by
    have hm := rng_mem.mp hm
    exact ⟨_, rfl, rfl, e_frz (e_x (x_call (a_cons (e_var rfl) (a_cons (e_var rfl) (a_cons (e_var rfl) a_nil))) rfl (places_q bs tp ts (by rw [hbl]; exact hts) hl m hm.1)) rfl)⟩
  rw [List.map_map]
  exact h
include hn in
theorem stand_e : dOfN (nComp [6, 7] (gT2 (gN 6) (gN 7)) (iEnum (dVar 4)) (dTst (dCmp (kI fun i j => decide (i ≤ j)) (dB kLen (dAc (dVar 7) dA0)) (dVar 2))) (dFrz (dTup (dAc (dFrz (dVar 6)) (dAc (dB kLen (dAc (dVar 7) dA0)) dA0))))) (kst net bs tp ts lies ++ [.dat true (.list ((krows net bs ts).map dL)), .un, .un, .un]) = .val (.d true (.list ((stK net.length bs ts lies).map pI)), kst net bs tp ts lies ++ [.dat true (.list ((krows net bs ts).map dL)), .un, .un, .un]) := by
  apply e_ofN
  have hit := i_enumL (e_var (Γ := kst net bs tp ts lies ++ [.dat true (.list ((krows net bs ts).map dL)), .un, .un, .un]) (m := 4) rfl)
  rw [enumD_map] at hit
  have h := n_comp (enc := fun z : List Int × Nat => .tuple [.int (z.2 : Nat), dL z.1]) (krows net bs ts).zipIdx (fun z => decide (((z.1.length : Nat) : Int) ≤ lies)) (fun z => pI ((z.2 : Nat), (z.1.length : Nat))) (vs := [6, 7]) (g := gT2 (gN 6) (gN 7)) (t := dTst (dCmp (kI fun i j => decide (i ≤ j)) (dB kLen (dAc (dVar 7) dA0)) (dVar 2))) (e := dFrz (dTup (dAc (dFrz (dVar 6)) (dAc (dB kLen (dAc (dVar 7) dA0)) dA0)))) hit (by rw [List.length_zipIdx, List.length_map, rng_len]; omega) rfl fun z hz =>
    ⟨_, rfl, rfl, t_tst (e_cmp (e_B (a_cons (e_var rfl) a_nil) (k_lenI rfl)) (e_var rfl) k_I), fun _ => e_frz (e_tup (a_cons (e_frzT (e_var rfl) rfl) (a_cons (e_B (a_cons (e_var rfl) a_nil) (k_lenI rfl)) a_nil)) rfl rfl)⟩
  refine h.trans ?_
  congr 2
  unfold krows stK
  rw [zip_rng, List.filter_map, List.map_map, List.map_map]
  have e : ∀ m : Int, ((fun z : List Int × Nat => decide (((z.1.length : Nat) : Int) ≤ lies)) ∘ fun m => (plcs bs ts m, m.toNat)) m = decide (cnt bs ts m ≤ lies) := fun m => by
    show decide ((((plcs bs ts m).length : Nat) : Int) ≤ lies) = _
    rw [plcs_len]
  rw [List.filter_congr fun m _ => e m]
  apply List.map_congr_left
  intro m hm
  have hm := rng_mem.mp (List.mem_filter.mp hm).1
  show pI (((m.toNat : Nat) : Int), (((plcs bs ts m).length : Nat) : Int)) = pI (m, cnt bs ts m)
  rw [plcs_len]
  have : ((m.toNat : Nat) : Int) = m := by omega
  rw [this]
theorem known_s : initS 8 [Ar.d (dTT net), Ar.d (tsD tp ts), Ar.d (.int lies)] = [.dat false (dTT net), .dat false (tsD tp ts), .dat true (.int lies), .un, .un, .un, .un, .un] := by
  unfold initS arS; simp only [List.map_cons, sc_tsD]; rfl
end
theorem in_from {net : List (List Int)} {bs : List Int} (hB : BitsOk net bs) {rs : List (List Int)} (hR : FromOk net rs) {t : Nat} {b : Int} {r : List Int} (hb : bs[t]? = some b) (hr : rs[t]? = some r) (m : Int) (hm : 0 ≤ m) : decide (m ∈ r) = inb b m := by
  obtain ⟨m, rfl⟩ : ∃ k : Nat, m = (k : Int) := ⟨m.toNat, by omega⟩
  have := (hR t r hr).2.2.2 m
  rw [← inb_anc hB hb m] at this
  cases h : inb b (m : Nat)
  · rw [h] at this; simpa using this
  · rw [h] at this; simpa using this
theorem spk_in (b : Int) (ans : Str) (ha : ans ∈ ansL) (m : Int) : spk b ans m = if ans = "cannot" then false else decide (inb b m = decide (ans = "good")) := by
  have g1 : ¬ (("good" : Str) = "bad") := of_decide_eq_false (by decide +kernel)
  have g2 : ¬ (("bad" : Str) = "good") := of_decide_eq_false (by decide +kernel)
  have g3 : ¬ (("cannot" : Str) = "bad") := of_decide_eq_false (by decide +kernel)
  have g4 : ¬ (("cannot" : Str) = "good") := of_decide_eq_false (by decide +kernel)
  have g5 : ¬ (("good" : Str) = "cannot") := of_decide_eq_false (by decide +kernel)
  have g6 : ¬ (("bad" : Str) = "cannot") := of_decide_eq_false (by decide +kernel)
  simp only [ansL, List.mem_cons, List.not_mem_nil, or_false] at ha
  rcases ha with rfl | rfl | rfl
  · show (if ("good" : Str) = "bad" then _ else _) = _
    rw [if_neg g1, if_neg g5, decide_eq_true (show ("good" : Str) = "good" from rfl)]
    show (decide (("good" : Str) = "good") && inb b m) = _
    rw [decide_eq_true (show ("good" : Str) = "good" from rfl)]
    cases inb b m <;> rfl
  · show (if ("bad" : Str) = "bad" then _ else _) = _
    rw [if_pos rfl, if_neg g6, decide_eq_false g2]
    cases inb b m <;> rfl
  · show (if ("cannot" : Str) = "bad" then _ else (decide (("cannot" : Str) = "good") && inb b m)) = _
    rw [if_neg g3, decide_eq_false g4, if_pos rfl]
    rfl
theorem lspeaks_t (net : List (List Int)) (bs : List Int) (hB : BitsOk net bs) (rs : List (List Int)) (hl : rs.length = net.length) (hR : FromOk net rs) (q : Tr) (h1 : 0 ≤ q.1) (h2 : q.1 < (net.length : Int)) (ha : q.2 ∈ ansL) (m : Int) (hm : 0 ≤ m) : u_qspeaks [.d (.list (rs.map dOne)), .d (pT q), .d (.int m)] = .val (.d (.bool (spm bs q m)), [.un, .un, .un]) := by
  obtain ⟨t, ans⟩ := q
  dsimp only at h1 h2 ha ⊢
  obtain ⟨t, rfl⟩ : ∃ k : Nat, t = (k : Int) := ⟨t.toNat, by omega⟩
  obtain ⟨b, hb⟩ : ∃ b, bs[t]? = some b := ⟨_, List.getElem?_eq_getElem (by have := hB.1; omega)⟩
  obtain ⟨r, hr⟩ : ∃ r, rs[t]? = some r := ⟨_, List.getElem?_eq_getElem (by omega)⟩
  have hin := in_from hB hR hb hr m hm
  have hne := (hR t r hr).2.2.1
  have hspm : spm bs ((t : Int), ans) m = spk b ans m := by unfold spm; simp only [Int.toNat_natCast, hb]
  rw [hspm, spk_in b ans ha]
  refine ok_eq (ok_run rfl ?_)
  unfold b_qspeaks
  apply w_setG
  · exact e_frzT (e_var rfl) rfl
  · rfl
  apply w_ifB
  · exact t_tst (e_cmp (e_var rfl) e_C (k_eqS (ans_okP ha) (by decide +kernel)))
  · intro hz
    have hz : ans = "cannot" := by simpa using hz
    rw [if_pos hz]
    and_intros
    apply w_ret
    · exact e_C
    exact ⟨_, _, rfl, rfl, rfl⟩
  · intro hz
    have hz : ¬ ans = "cannot" := by simpa using hz
    rw [if_neg hz]
    and_intros
    apply w_ret
    · exact e_cmp (e_cmp (e_var rfl) (e_ixL (e_var rfl) (e_var rfl) (at_nat hr)) (k_inOne hne)) (e_cmp (e_var rfl) e_C (k_eqS (ans_okP ha) (by decide +kernel))) (k_eqT eqt_bool (by decide) rfl rfl)
    rw [hin]
    exact ⟨_, _, rfl, rfl, rfl⟩
theorem whole_t (n : Int) : u_qwhole [.d (.int n)] = .val (.d (.bool true), [.un]) := by
  refine ok_eq (ok_run rfl ?_)
  unfold b_qwhole
  apply w_ret
  · exact e_and (e_isi (e_var rfl) rfl rfl) (fun _ => e_not (e_isi (e_var rfl) rfl rfl))
  exact ⟨_, _, rfl, rfl, rfl⟩
theorem cnt_snoc (bs : List Int) (ts : List Tr) (q : Tr) (m : Int) : cnt bs (ts ++ [q]) m = cnt bs ts m + b2n (spm bs q m) := by
  unfold cnt
  rw [List.filter_append, List.length_append]
  cases h : spm bs q m
  · simp [h, b2n]
  · simp [h, b2n]
theorem rng_snoc (j : Nat) : rng 0 ((j + 1 : Nat) : Int) = rng 0 (j : Nat) ++ [(j : Int)] := by
  unfold rng
  have e1 : (((j + 1 : Nat) : Int) - 0).toNat = j + 1 := by omega
  have e2 : (((j : Nat) : Int) - 0).toNat = j := by omega
  rw [e1, e2, List.range_succ, List.map_append]
  simp
theorem netExp_t (ns : List Int) (i : Nat) (d0 : Dk3) (rest : List Sl) : ∃ (net : List (List Int)) (d2 : Dk3), eX (xCallC u_qnet_k12 0 [] (dAc (dVar 2) (dAc (dIxB (dOfN (dLst (dAc (dC (.int 12)) (dAc (dC (.int 40)) dA0)))) (dB kInt (dAc (dAnd (dCmp kEq (dVar 1) (dC (.int 0))) (dCmp kEq (eX (xCallC u_qtake 0 [] (dAc (dVar 2) (dAc (dC (.int 8)) dA0)))) (dC (.int 5)))) dA0))) dA0)))
    ([.dat false (dL ns), .dat true (.int (i : Nat)), .own (dk d0)] ++ rest) = .val (.d true (dTT net), [.dat false (dL ns), .dat true (.int (i : Nat)), .own (dk d2)] ++ rest) ∧ NetOk net ∧ 1 ≤ net.length ∧ net.length ≤ 40 := by
  have hv : ∀ z : Bool, ∃ m : Nat, atI [PyData.int 12, .int 40] (b2n z) = some (.int (m : Nat)) ∧ 1 ≤ m ∧ m ≤ 40 := fun z => by cases z; exact ⟨12, rfl, by decide, by decide⟩; exact ⟨40, rfl, by decide, by decide⟩
  have hz : ∃ (z : Bool) (d1 : Dk3), dAnd (dCmp kEq (dVar 1) (dC (.int 0))) (dCmp kEq (eX (xCallC u_qtake 0 [] (dAc (dVar 2) (dAc (dC (.int 8)) dA0)))) (dC (.int 5))) ([.dat false (dL ns), .dat true (.int (i : Nat)), .own (dk d0)] ++ rest) = .val (.d true (.bool z), [.dat false (dL ns), .dat true (.int (i : Nat)), .own (dk d1)] ++ rest) := by
    by_cases h0 : ((i : Nat) : Int) = 0
    · obtain ⟨r, d1, hr, _, _⟩ := take_t d0 8 (by decide) (by decide)
      exact ⟨_, d1, e_andT (e_cmp (e_var rfl) e_C k_eqI) (decide_eq_true h0) (e_cmp (e_x (x_callE (a_cons (e_varO rfl) (a_cons e_C a_nil)) rfl rfl rfl rfl hr rfl rfl) rfl) e_C k_eqI)⟩
    · exact ⟨false, d0, e_andF (e_cmp (e_var rfl) e_C k_eqI) (decide_eq_false h0)⟩
  obtain ⟨z, d1, hz⟩ := hz
  obtain ⟨m, hm, m1, m2⟩ := hv z
  obtain ⟨net, d2, h, hN, n1, n2⟩ := net_t d1 m m1 (by omega)
  exact ⟨net, d2, e_x (x_callE (a_cons (e_varO rfl) (a_cons (e_ixL (e_ofN (n_lst (a_cons e_C (a_cons e_C a_nil)) rfl rfl)) (e_B (a_cons hz a_nil) rfl) hm) a_nil)) rfl rfl rfl rfl h rfl rfl) rfl, hN, n1, by omega⟩
theorem shp_ts (tp : Bool) (ts : List Tr) (n : Nat) (h : TrOk n ts) : SeqAt.shaped (tsD tp ts) = true ∧ (tsD tp ts).canLay0 = true := by
  have e : ∀ xs : List Tr, (∀ q ∈ xs, q.2 ∈ ansL) → PyData.canLayAll0 (xs.map pT) = true := by
    intro xs
    induction xs with
    | nil => intro _; rfl
    | cons q r ih =>
      intro hq
      have h2 := ans_okP (hq q (by simp))
      rw [List.map_cons, PyData.canLayAll0, ih fun y hy => hq y (by simp [hy])]
      simp [PyData.canLay0, PyData.canLayAll0, h2]
  have e1 := e ts fun q hq => (h q hq).2.2
  have e2 : (tsD tp ts).canLay0 = true := by
    cases tp
    · show (PyData.list (ts.map pT)).canLay0 = true; rw [PyData.canLay0]; exact e1
    · show (PyData.tuple (ts.map pT)).canLay0 = true; rw [PyData.canLay0]; exact e1
  have e3 : PyData.depthAll (ts.map pT) ≤ 1 := by
    clear h e e1 e2
    induction ts with
    | nil => exact Nat.zero_le _
    | cons q r ih =>
      rw [List.map_cons, PyData.depthAll]
      exact Nat.max_le.mpr ⟨Nat.le_refl _, ih⟩
  refine ⟨?_, e2⟩
  unfold SeqAt.shaped
  rw [e2]
  have : (tsD tp ts).depth ≤ 2 := by cases tp <;> (show PyData.depthAll (ts.map pT) + 1 ≤ 2; omega)
  simp only [Bool.true_and]
  exact decide_eq_true (by omega)
end PD
set_option linter.all false
set_option maxRecDepth 100000
set_option maxHeartbeats 0
set_option autoImplicit false
namespace PD
open PySem L2
abbrev rowsX (net : List (List Int)) (bs : List Int) (ts : List Tr) (lies : Int) : List (List Int) := (krows net bs ts).map fun r => r.take (lies + 1).toNat
section
variable (net : List (List Int)) (bs : List Int) (eb : uBitsOf [.d (dTT net)] = .val (.c (.lst (bs.map PyData.int)), [.un])) (hbl : bs.length = net.length) (hn : net.length ≤ 1000) (tp : Bool) (ts : List Tr) (hts : TrOk net.length ts) (hl : ts.length < 2 ^ 20) (lies : Int)
end
theorem ins_perm {α : Type} (xs : List α) (n : Int) (y : α) : (insI xs n y).Perm (xs ++ [y]) := by
  unfold insI
  rw [List.append_assoc]
  refine List.perm_append_comm_assoc _ _ _ |>.trans ?_
  rw [List.take_append_drop]
  exact List.perm_append_comm
theorem ins_mapG {α β : Type} (f : α → β) (xs : List α) (a : Int) (x : α) : (insI xs a x).map f = insI (xs.map f) a (f x) := by
  unfold insI
  rw [List.map_append, List.map_append, List.map_take, List.map_drop]
  rfl
end PD
set_option linter.all false
set_option maxRecDepth 100000
set_option maxHeartbeats 0
set_option autoImplicit false
namespace PDW
open PySem L2 PD
theorem w_rtT {k : DA} {Γ Γ1 : List Sl} {as : List AV} {i : Nat} {ts : List Tre} {ds : List PyData} {r : DS} {P : Fw → List Sl → Prop} (h1 : k Γ = .val (as, Γ1)) (hs : szB as = true) (hi : slotOf as = some i) (ht : treL Γ1 i as = some ts) (hg : Γ1[i]? = some (.own (.lst ds))) (h : P (.rt (.c (.tr (.tup ts)))) (Γ1.set i .un)) : W (bSeq (bRetT k) r) Γ P := by
  refine w_seq ⟨(.rt (.c (.tr (.tup ts))), Γ1.set i .un), ?_, h⟩
  unfold bRetT
  rw [h1, bind_val]
  simp only
  rw [hs, req_true, bind_val, hi, ofO_some, bind_val, ht, ofO_some, bind_val]
  simp only [hg]
theorem leavesD_m : ∀ ds : List PyData, leavesD (ds.map Tre.d) = some ds
  | [] => rfl
  | d :: ds => by rw [List.map_cons, leavesD, leavesD_m ds]; rfl
theorem w_unT2 {f : DX} {Γ Γ1 : List Sl} {i j : Nat} {a : PyData} {ds : List PyData} {r : DS} {P : Fw → List Sl → Prop} (h1 : f Γ = .val (.c (.tr (.tup [.d a, .lst (ds.map Tre.d)])), Γ1)) (hij : i ≠ j) (h : W r ((Γ1.set j (.own (.lst ds))).set i (.dat true a)) P) : W (bSeq (bUnT2 i j f) r) Γ P := w_one ⟨_, by
  unfold bUnT2
  rw [h1, bind_val]
  show ((R.ofO (leavesD (ds.map Tre.d))).bind _) = _
  rw [leavesD_m, ofO_some, bind_val, decide_eq_true hij]; rfl, h⟩
theorem trials15_t (d : Dk3) (net : List (List Int)) (h1 : 1 ≤ net.length) (hn : net.length ≤ 1000) (bs : List Int) (hB : BitsOk net bs) (rs : List (List Int)) (hl : rs.length = net.length) (hR : FromOk net rs) (lb : Int) (hlb : 0 ≤ lb) :
    ∃ (first : Int) (ts : List Tr) (d' : Dk3), u_qtrials_k15 [.c (dk d), .d (dTT net), .d (.list (rs.map dOne)), .d (.int lb)] = .val (.c (.tr (.tup [.d (.int first), .lst ((ts.map pT).map Tre.d)])), [.io (dk d'), .un, .un, .un]) ∧ (0 ≤ first ∧ first < (net.length : Int)) ∧ TrOk net.length ts ∧ ts.length ≤ 60 ∧ cnt bs ts first ≤ lb := by
  have key : Ok (u_qtrials_k15 [.c (dk d), .d (dTT net), .d (.list (rs.map dOne)), .d (.int lb)]) fun z => ∃ (first : Int) (ts : List Tr) (d' : Dk3), z = (.c (.tr (.tup [.d (.int first), .lst ((ts.map pT).map Tre.d)])), [.io (dk d'), .un, .un, .un]) ∧ (0 ≤ first ∧ first < (net.length : Int)) ∧ TrOk net.length ts ∧ ts.length ≤ 60 ∧ cnt bs ts first ≤ lb := by
    refine ok_run rfl ?_
    unfold b_qtrials_k15
    obtain ⟨first, d1, hr1, r10, r11⟩ := take_t d (net.length : Nat) (by omega) (by omega)
    apply w_set
    · exact e_x (x_callE (a_cons (e_varI rfl) (a_cons (e_B (a_cons (e_var rfl) a_nil) (k_lenJ rfl)) a_nil)) rfl rfl rfl rfl hr1 rfl rfl) rfl
    clear hr1
    apply w_set
    · exact e_frzD (e_var rfl)
    bv_decide
    obtain ⟨w, d2, hr2, r20, r21⟩ := take_t d1 6 (by omega) (by omega)
    obtain ⟨mx, hmx, m1, m2⟩ : ∃ mx : Int, atI [PyData.int 5, .int 9, .int 13, .int 13, .int 25, .int 61] w = some (.int mx) ∧ 1 ≤ mx ∧ mx ≤ 61 := by
      have : w = 0 ∨ w = 1 ∨ w = 2 ∨ w = 3 ∨ w = 4 ∨ w = 5 := by omega
      rcases this with e | e | e | e | e | e <;> rw [e] <;> exact ⟨_, rfl, by decide, by decide⟩
    obtain ⟨N, d3, hr3, r30, r31⟩ := take_t d2 mx (by omega) (by omega)
    refine w_forR (N := N) (S := Dk3 × List Tr × Int) (fun i s => TrOk net.length s.2.1 ∧ s.2.1.length = i ∧ 0 ≤ s.2.2 ∧ cnt bs s.2.1 first + s.2.2 ≤ lb) (fun s => [.io (dk s.1), .dat false (dTT net), .dat false (.list (rs.map dOne)), .dat true (.int lb), .dat true (.int first), .dat true (.int s.2.2), .own (.lst (s.2.1.map pT)), .un, .un, .un, .un]) (d3, [], lb)
      (i_range1 (fr := true) (e_x (x_callE (a_cons (e_varI rfl) (a_cons (e_ixL (e_ofN (n_lst (a_cons e_C (a_cons e_C (a_cons e_C (a_cons e_C (a_cons e_C (a_cons e_C a_nil)))))) rfl rfl)) (e_x (x_callE (a_cons (e_varI rfl) (a_cons e_C a_nil)) rfl rfl rfl rfl hr2 rfl rfl) rfl) hmx) a_nil)) rfl rfl rfl rfl hr3 rfl rfl) rfl) (cRng_of (by decide) (by decide) (by omega) (by omega))) rfl ⟨fun q hq => by simp at hq, rfl, hlb, by show cnt bs [] first + lb ≤ lb; show (0 : Int) + lb ≤ lb; omega⟩ ?_ ?_
    · rintro i ⟨d4, ts, left⟩ hi ⟨q1, q2, q3, q4⟩
      dsimp only at q1 q2 q3 q4 ⊢
      refine ⟨_, rfl, ?_⟩
      obtain ⟨t', d5, hr5, r50, r51⟩ := take_t d4 (net.length : Nat) (by omega) (by omega)
      obtain ⟨t, rfl⟩ : ∃ k : Nat, t' = (k : Int) := ⟨t'.toNat, by omega⟩
      apply w_set
      · exact e_x (x_callE (a_cons (e_varI rfl) (a_cons (e_B (a_cons (e_var rfl) a_nil) (k_lenJ rfl)) a_nil)) rfl rfl rfl rfl hr5 rfl rfl) rfl
      clear hr5
      obtain ⟨b, hb⟩ : ∃ b, bs[t]? = some b := ⟨_, List.getElem?_eq_getElem (by have := hB.1; omega)⟩
      obtain ⟨r, hr⟩ : ∃ r, rs[t]? = some r := ⟨_, List.getElem?_eq_getElem (by omega)⟩
      have hin := in_from hB hR hb hr first r10
      have hne := (hR t r hr).2.2.1
      obtain ⟨tr, htr, htr2, htrS⟩ : ∃ tr : Str, atI [PyData.str "good", .str "bad"] (b2n (decide (first ∈ r))) = some (.str tr) ∧ tr ∈ ansL ∧ spk b tr first = false := by
        rw [hin]
        cases h : inb b first
        · refine ⟨"good", rfl, by simp [ansL], ?_⟩
          rw [spk_in b _ (by simp [ansL]), h]
          decide +kernel
        · refine ⟨"bad", rfl, by simp [ansL], ?_⟩
          rw [spk_in b _ (by simp [ansL]), h]
          decide +kernel
      apply w_set
      · exact e_frzT (e_ixL (e_ofN (n_lst (a_cons e_C (a_cons e_C a_nil)) rfl rfl)) (e_B (a_cons (e_cmp (e_var rfl) (e_ixL (e_var rfl) (e_var rfl) (at_nat hr)) (k_inOne hne)) a_nil) rfl) htr) rfl
      obtain ⟨wy, d6, hr6, r60, r61⟩ := take_t d5 8 (by omega) (by omega)
      apply w_set
      · exact e_x (x_callE (a_cons (e_varI rfl) (a_cons e_C a_nil)) rfl rfl rfl rfl hr6 rfl rfl) rfl
      clear hr6
      refine w_ifJ (S := Str × Int) (fun s => s.1 ∈ ansL ∧ 0 ≤ s.2 ∧ cnt bs ts first + b2n (spk b s.1 first) + s.2 ≤ lb) (fun s => [.io (dk d6), .dat false (dTT net), .dat false (.list (rs.map dOne)), .dat true (.int lb), .dat true (.int first), .dat true (.int s.2), .own (.lst (ts.map pT)), .dat true (.int (i : Nat)), .dat true (.int (t : Nat)), .dat true (.str s.1), .dat true (.int wy)]) (t_tst (e_cmp (e_var rfl) e_C k_eqI)) ?_ ?_ ?_
      · intro _
        apply w_set
        · exact e_C
        refine w_nil ⟨("cannot", left), rfl, by simp [ansL], q3, ?_⟩
        have : spk b "cannot" first = false := by rw [spk_in b _ (by simp [ansL])]; rfl
        rw [this]
        show cnt bs ts first + 0 + left ≤ lb
        omega
      · intro _
        apply_assumption
        · intro hz
          have hleft : 0 < left := by
            simp only [Bool.and_eq_true, decide_eq_true_eq] at hz
            exact hz.2
          obtain ⟨a2, ha2, ha3⟩ : ∃ a2 : Str, atI [PyData.str "good", .str "bad"] (b2n (decide (tr = "good"))) = some (.str a2) ∧ a2 ∈ ansL := by
            cases decide (tr = "good")
            · exact ⟨_, rfl, by simp [ansL]⟩
            · exact ⟨_, rfl, by simp [ansL]⟩
          and_intros
          apply w_set
          · exact e_frzT (e_ixL (e_ofN (n_lst (a_cons e_C (a_cons e_C a_nil)) rfl rfl)) (e_B (a_cons (e_cmp (e_var rfl) e_C (k_eqS (ans_okP htr2) (by decide +kernel))) a_nil) rfl) ha2) rfl
          bv_decide
          and_intros
          refine w_nil ⟨(a2, left - 1), rfl, ha3, by dsimp only; omega, ?_⟩
          have : b2n (spk b a2 first) ≤ 1 := by cases spk b a2 first <;> decide
          dsimp only
          omega
        · intro _
          and_intros
          refine w_nil ⟨(tr, left), rfl, htr2, q3, ?_⟩
          dsimp only
          rw [htrS]
          show cnt bs ts first + 0 + left ≤ lb
          omega
      · rintro ⟨a, lf⟩ ⟨g1, g2, g3⟩
        dsimp only at g1 g2 g3 ⊢
        apply w_expr
        · apply e_ap
          · rfl
          · exact e_frz (e_tup (a_cons (e_frz (e_var rfl)) (a_cons (e_frz (e_var rfl)) a_nil)) rfl rfl)
          · rfl
          · exact ltS_map (by omega)
        refine w_nil ⟨(d6, ts ++ [((t : Int), a)], lf), by rw [List.map_append]; rfl, ?_, by simp [q2], g2, ?_⟩
        · intro q hq
          rcases List.mem_append.mp hq with h | h
          · exact q1 q h
          · have : q = ((t : Int), a) := by simpa using h
            subst this
            exact ⟨r50, r51, g1⟩
        · dsimp only
          rw [cnt_snoc]
          have : spm bs ((t : Int), a) first = spk b a first := by unfold spm; simp only [Int.toNat_natCast, hb]
          rw [this]
          exact g3
    · rintro ⟨d4, ts, left⟩ ⟨q1, q2, q3, q4⟩
      dsimp only at q1 q2 q3 q4 ⊢
      apply w_rtT (i := 6) (ds := ts.map pT)
      · exact a_cons (e_frz (e_var rfl)) (a_cons (e_varO rfl) a_nil)
      · rfl
      · rfl
      · rfl
      · rfl
      exact ⟨_, _, rfl, rfl, first, ts, d4, rfl, ⟨r10, r11⟩, q1, by omega, by omega⟩
  obtain ⟨z, e, first, ts, d', rfl, h⟩ := key
  exact ⟨first, ts, d', e, h⟩
def textsL : List Str := ["Good", "", "none", "bad ", "can't", "goodbad", "can", "BAD", "cannott", "0"]
def BadT (n : Nat) (q : Tr) : Prop := ¬ (0 ≤ q.1 ∧ q.1 < (n : Int)) ∨ q.2 ∈ textsL
theorem in_bad {Γ : List Sl} {fr : Bool} {i : Nat} {a : Str} (h : Γ[i]? = some (.dat fr (.str a))) (ha : a ∈ textsL) : dInG true [.str "good", .str "bad", .str "cannot"] (dVar i) Γ = .val (.d true (.bool true), Γ) := by
  unfold dInG
  rw [e_var h, bind_val]
  simp only [textsL, List.mem_cons, List.not_mem_nil, or_false] at ha
  rcases ha with e | e | e | e | e | e | e | e | e | e <;> rw [e] <;> rfl
theorem in_good {Γ : List Sl} {fr : Bool} {i : Nat} {a : Str} (h : Γ[i]? = some (.dat fr (.str a))) (ha : a ∈ ansL) : dInG true [.str "good", .str "bad", .str "cannot"] (dVar i) Γ = .val (.d true (.bool false), Γ) := by
  unfold dInG
  rw [e_var h, bind_val]
  simp only [ansL, List.mem_cons, List.not_mem_nil, or_false] at ha
  rcases ha with e | e | e <;> rw [e] <;> rfl
theorem check_bad (net : List (List Int)) (us : List Tr) (j : Nat) (q : Tr) (hq : us[j]? = some q) (hb : BadT net.length q) (hg : ∀ i p, i < j → us[i]? = some p → 0 ≤ p.1 ∧ p.1 < (net.length : Int) ∧ p.2 ∈ ansL) (hl : us.length < 2 ^ 20) :
    u_p_check_trials [.d (dTT net), .d (.list (us.map pT))] = .exc ⟨"NoTrial", [("place", .int (j : Nat))], [.un, .un]⟩ := by
  have hj := (List.getElem?_eq_some_iff.mp hq).1
  refine run_x (y := ⟨"NoTrial", [("place", .int (j : Nat))], [.dat false (dTT net), .dat false (.list (us.map pT)), .dat false (.int (j : Nat)), .dat false (.int q.1), .dat false (.str q.2)]⟩) rfl ?_ rfl
  unfold b_p_check_trials
  refine we_for (fun _ Γ => Γ = [.dat false (dTT net), .dat false (.list (us.map pT)), .un, .un, .un]) j (i_enumL (e_var rfl)) rfl (by rw [enumD_len, List.length_map]; exact hj) ?_ ?_
  · rintro i d Γ hi hdd rfl
    obtain ⟨y, hy, rfl⟩ := enumD_at hdd
    obtain ⟨p, hp, rfl⟩ := gmap hy
    obtain ⟨h1, h2, ha⟩ := hg i p hi hp
    refine ⟨_, rfl, ?_⟩
    apply w_ifN
    · exact t_or (t_tst (e_cmp (e_var rfl) e_C k_I)) fun _ => t_or (t_tst (e_cmp (e_var rfl) (e_B (a_cons (e_var rfl) a_nil) (k_lenJ rfl)) k_I)) fun _ => t_tst (in_good rfl ha)
    · simp; omega
    and_intros
    exact w_nil ⟨.inl rfl, rfl⟩
  · rintro d Γ hdd rfl
    obtain ⟨y, hy, rfl⟩ := enumD_at hdd
    obtain ⟨p, hp, rfl⟩ := gmap hy
    rw [hq] at hp
    cases hp
    refine ⟨_, rfl, ?_⟩
    by_cases hr : 0 ≤ q.1 ∧ q.1 < (net.length : Int)
    · have ht : q.2 ∈ textsL := hb.resolve_left fun h => h hr
      refine we_ifY (t_or (t_tst (e_cmp (e_var rfl) e_C k_I)) fun _ => t_or (t_tst (e_cmp (e_var rfl) (e_B (a_cons (e_var rfl) a_nil) (k_lenJ rfl)) k_I)) fun _ => t_tst (in_bad rfl ht)) (by simp) ?_
      injections
      exact we_raise (a_cons (e_frzT (e_var rfl) rfl) a_nil) rfl rfl rfl
    · by_cases h0 : q.1 < 0
      · refine we_ifY (t_or (z2 := false) (t_tst (e_cmp (e_var rfl) e_C k_I)) fun hz => absurd hz (by simp [h0])) (by simp [h0]) ?_
        injections
        exact we_raise (a_cons (e_frzT (e_var rfl) rfl) a_nil) rfl rfl rfl
      · have h1 : (net.length : Int) ≤ q.1 := by omega
        refine we_ifY (t_or (t_tst (e_cmp (e_var rfl) e_C k_I)) fun _ => t_or (z2 := false) (t_tst (e_cmp (e_var rfl) (e_B (a_cons (e_var rfl) a_nil) (k_lenJ rfl)) k_I)) fun hz => absurd hz (by simp [h1])) (by simp [h1]) ?_
        injections
        exact we_raise (a_cons (e_frzT (e_var rfl) rfl) a_nil) rfl rfl rfl
theorem alone_p (x : Int) : u_qis_alone [.d (xcD "NoTrial" [("place", .int x)]), .d (.bool true)] = .val (.d (.bool true), [.un, .un]) := by
  kernel_rfl
theorem alone_r (x : PyData) : u_qis_alone [.d (xcD "NoTruth" [("rows", x)]), .d (.bool true)] = .val (.d (.bool true), [.un, .un]) := by
  kernel_rfl
theorem c_compT {α : Type} (enc : α → PyData) (dec : α → List PyData) {vs : List Nat} {g : DG} {it : DI} {e : DN} {Γ : List Sl} {fr : Bool} (xs : List α) (h1 : it Γ = .val ((xs.map enc, fr), Γ)) (hl : xs.length ≤ 100000) (hw : wipeG Γ vs = Γ) (hb : ∀ x ∈ xs, ∃ Γ1 Γ2, g fr (enc x) Γ = some Γ1 ∧ e Γ1 = .val (dec x, Γ2) ∧ wipeG Γ2 vs = Γ) : cCompT vs g it e Γ = .val (.tr (lsT (xs.map dec)), Γ) := by
  have key : ∀ ys : List α, (∀ x ∈ ys, x ∈ xs) → compT vs g fr e (ys.map enc) Γ = .val (ys.map dec, Γ) := by
    intro ys
    induction ys with
    | nil => intro _; rfl
    | cons y ys ih =>
      intro hm
      obtain ⟨Γ1, Γ2, h3, h4, h5⟩ := hb y (hm y (by simp))
      rw [List.map_cons, compT_cons, h3, ofO_some, bind_val, h4]
      show ((compT vs g fr e (ys.map enc) (wipeG Γ2 vs)).bind _) = _
      rw [h5, ih fun x hx => hm x (by simp [hx])]
      rfl
  unfold cCompT
  rw [h1, bind_val]
  have hs : szB (xs.map enc) = true := decide_eq_true (by rw [List.length_map]; exact Nat.le_trans hl (by decide))
  simp only [hs]
  show ((compT vs g fr e (xs.map enc) (wipeG Γ vs)).bind _) = _
  rw [hw, key xs fun _ h => h]
  rfl
theorem trDs_d : ∀ ds : List PyData, trDs (ds.map Tre.d) = some ds
  | [] => by rw [List.map_nil, trDs]
  | d :: ds => by rw [List.map_cons, trDs, trD, trDs_d ds]; rfl
theorem trDs_l : ∀ dss : List (List PyData), trDs (dss.map fun ds => .lst (ds.map Tre.d)) = some (dss.map PyData.list)
  | [] => by rw [List.map_nil, trDs]; rfl
  | ds :: dss => by rw [List.map_cons, trDs, trD, trDs_d, trDs_l dss]; rfl
theorem trD_ls (dss : List (List PyData)) : trD (lsT dss) = some (.list (dss.map PyData.list)) := by
  unfold lsT
  rw [trD, trDs_l]; rfl
theorem n_XL {k : DX} {Γ Γ1 : List Sl} {ds : List PyData} (h : k Γ = .val (.c (.lst ds), Γ1)) : nXL k Γ = .val (ds, Γ1) := by
  unfold nXL
  rw [h]; rfl
theorem unDs_d : ∀ ds : List PyData, unDs (ds.map Tre.d) = some ds
  | [] => rfl
  | d :: ds => by
    show (unDs (ds.map Tre.d)).map (fun r => d :: r) = _
    rw [unDs_d ds]; rfl
theorem unRs_l : ∀ dss : List (List PyData), unRs (dss.map fun ds => .lst (ds.map Tre.d)) = some dss
  | [] => rfl
  | ds :: dss => by
    show ((unDs (ds.map Tre.d)).bind fun e => (unRs (dss.map fun ds => .lst (ds.map Tre.d))).map fun r => e :: r) = _
    rw [unDs_d ds, unRs_l dss]; rfl
theorem e_row {k : DC} {Γ Γ1 : List Sl} {dss : List (List PyData)} (h : k Γ = .val (.tr (lsT dss), Γ1)) : dRow k Γ = .val (.d true (sepD dss), Γ1) := by
  unfold dRow
  rw [h, bind_val]
  have : unLs (.tr (lsT dss)) = some dss := unRs_l dss
  simp only [this]
section
variable (net : List (List Int)) (bs : List Int) (eb : uBitsOf [.d (dTT net)] = .val (.c (.lst (bs.map PyData.int)), [.un])) (hbl : bs.length = net.length) (hn : net.length ≤ 1000) (tp : Bool) (ts : List Tr) (hts : TrOk net.length ts) (hl : ts.length < 2 ^ 20) (lies : Int)
include eb hbl hn hts hl in
theorem known15_q (hne : stK net.length bs ts lies ≠ []) : u_p_known_k15 [.d (dTT net), .d (tsD tp ts), .d (.int lies)] = .val (.d (sD (stK net.length bs ts lies)), [.un, .un, .un]) := by
  refine ok_eq (ok_run rfl ?_)
  unfold b_p_known_k15
  rw [known_s]
  apply w_exprX
  · exact x_call (a_cons (e_var rfl) (a_cons (e_var rfl) a_nil)) rfl (check_ok net tp ts hts hl)
  · rfl
  apply w_set
  · exact e_x (x_call (a_cons (e_var rfl) a_nil) rfl eb) rfl
  apply w_set
  · exact rows_e net bs hbl hn tp ts hts hl lies
  apply w_set
  · exact stand_e net bs hn tp ts lies
  apply w_ifN
  · exact t_tst (e_cmp (e_var rfl) (e_ofN (n_lst a_nil rfl rfl)) (k_eqT (eqt_list eqt_pI) (by decide) (x := stK net.length bs ts lies) (y := []) rfl rfl))
  · exact decide_eq_false hne
  and_intros
  apply w_ret
  · exact e_B (a_cons (e_var rfl) a_nil) (k_tup rfl)
  exact ⟨_, _, rfl, rfl, rfl⟩
end
section
variable (net : List (List Int)) (bs : List Int) (eb : uBitsOf [.d (dTT net)] = .val (.c (.lst (bs.map PyData.int)), [.un])) (hbl : bs.length = net.length) (hn : net.length ≤ 1000) (tp : Bool) (ts : List Tr) (hts : TrOk net.length ts) (hl : ts.length < 2 ^ 20) (lies : Int)
include eb hbl hn hts hl in
theorem known15_x (h0 : 0 ≤ lies) (he : stK net.length bs ts lies = []) : u_p_known_k15 [.d (dTT net), .d (tsD tp ts), .d (.int lies)] = .exc ⟨"NoTruth", [("rows", sepD ((rowsX net bs ts lies).map fun r => r.map PyData.int))], [.un, .un, .un]⟩ := by
  refine run_x (y := ⟨"NoTruth", [("rows", sepD ((rowsX net bs ts lies).map fun r => r.map PyData.int))], kst net bs tp ts lies ++ [.dat true (.list ((krows net bs ts).map dL)), .dat true (.list ((stK net.length bs ts lies).map pI)), .un, .un]⟩) rfl ?_ rfl
  unfold b_p_known_k15
  rw [known_s]
  refine we_oexprX (x_call (a_cons (e_var rfl) (a_cons (e_var rfl) a_nil)) rfl (check_ok net tp ts hts hl)) rfl ?_
  refine we_oset (e_x (x_call (a_cons (e_var rfl) a_nil) rfl eb) rfl) ?_
  refine we_oset (rows_e net bs hbl hn tp ts hts hl lies) ?_
  refine we_oset (stand_e net bs hn tp ts lies) ?_
  refine we_ifY (t_tst (e_cmp (e_var rfl) (e_ofN (n_lst a_nil rfl rfl)) (k_eqT (eqt_list eqt_pI) (by decide) (x := stK net.length bs ts lies) (y := []) rfl rfl))) (decide_eq_true he) ?_
  injections
  have hc := c_compT (enc := dL) (fun r => (r.take (lies + 1).toNat).map PyData.int) (vs := [7]) (g := gN 7) (it := iSeq (dVar 4)) (e := nXL (xCut (dVar 7) oNone (oSome (dAdd (dVar 2) (dC (.int 1)))))) (Γ := kst net bs tp ts lies ++ [.dat true (.list ((krows net bs ts).map dL)), .dat true (.list ((stK net.length bs ts lies).map pI)), .un, .un]) (krows net bs ts) (i_seqL (e_var rfl)) (by rw [List.length_map, rng_len]; omega) rfl fun r hr => ⟨_, _, rfl, by
    refine (n_XL (x_cut0 (e_var rfl) (o_some (e_add (e_var rfl) e_C)) rfl (by omega))).trans ?_
    rw [← List.map_take], rfl⟩
  refine we_raise (a_cons (e_row hc) a_nil) rfl rfl ?_
  congr 2
  unfold rowsX
  rw [List.map_map]
  rfl
end
theorem known15_b {net : List (List Int)} {us : List Tr} {j : Nat} {q : Tr} (lies : Int) (hq : us[j]? = some q) (hb : BadT net.length q) (hg : ∀ i p, i < j → us[i]? = some p → 0 ≤ p.1 ∧ p.1 < (net.length : Int) ∧ p.2 ∈ ansL) (hl : us.length < 2 ^ 20) :
    u_p_known_k15 [.d (dTT net), .d (.list (us.map pT)), .d (.int lies)] = .exc ⟨"NoTrial", [("place", .int (j : Nat))], [.un, .un, .un]⟩ := by
  have hc := check_bad net us j q hq hb hg hl
  refine run_x (y := ⟨"NoTrial", [("place", .int (j : Nat))], [.dat false (dTT net), .dat false (.list (us.map pT)), .dat true (.int lies), .un, .un, .un, .un, .un]⟩) rfl ?_ rfl
  unfold b_p_known_k15
  refine we_exprX ?_
  exact x_callX (y := ⟨"NoTrial", [("place", .int (j : Nat))], [.un, .un]⟩) (a_cons (e_var rfl) (a_cons (e_var rfl) a_nil)) rfl hc
end PDW
set_option linter.all false
set_option maxRecDepth 100000
set_option maxHeartbeats 0
set_option autoImplicit false
namespace PDW
open PySem L2 PD
theorem xo1 : exIs "NoTruth" "HuntError" = true := by decide +kernel
theorem xo2 : exIs "NoTrial" "HuntError" = true := by decide +kernel
theorem xo3 : (["NoTrial", "NoTruth"] : List Str).contains "NoTruth" = true := by decide +kernel
theorem xo4 : (["NoTrial", "NoTruth"] : List Str).contains "NoTrial" = true := by decide +kernel
theorem xo5 : (["NoTruth"] : List Str).any (exIs "NoTruth") = true := by decide +kernel
theorem xo6 : (["NoTrial"] : List Str).any (exIs "NoTrial") = true := by decide +kernel
theorem unl_d {m : List Ar → R (Rs × List Sl)} {as : List Ar} {x : PyData} {Z : List Sl} (hd : as.all isD = true) (h : m as = .val (.d x, Z)) : unlR m as = .val (.d x, Z) := by
  unfold unlR
  rw [hd, h]; rfl
theorem unl_c {m : List Ar → R (Rs × List Sl)} {as : List Ar} {x : PyData} {dss : List (List PyData)} {Z : List Sl} (hd : as.all isD = true) (h : m as = .val (.c (.lst [x, sepD dss]), Z)) (hc : (Z.all isUn && (flat x && dss.all flat.flatA)) = true) : unlR m as = .val (.c (.tr (.lst [.d x, lsT dss])), Z) := by
  unfold unlR
  rw [hd, h]
  show (match sepU (dss.map fun ds => (PyData.none, PyData.list ds)) with
    | some dss => (R.req (Z.all isUn && (flat x && dss.all flat.flatA))).bind fun _ => R.val (Rs.c (.tr (.lst [.d x, lsT dss])), Z)
    | none => .bad) = _
  rw [sepU_of]
  dsimp only
  rw [hc]; rfl
theorem w_retOD {i : Nat} {fr : Bool} {d : PyData} {Γ : List Sl} {r : DS} {P : Fw → List Sl → Prop} (h : Γ[i]? = some (.dat fr d)) (hw : W (bSeq (bRet (dVar i)) r) Γ P) : W (bSeq (bRetOD i) r) Γ P := by
  have : bSeq (bRetOD i) r Γ = bSeq (bRet (dVar i)) r Γ := by
    unfold bSeq bRetOD
    rw [h]
  unfold W at hw ⊢
  rw [this]; exact hw
theorem w_retOO {i : Nat} {c : Cl} {Γ : List Sl} {r : DS} {P : Fw → List Sl → Prop} (h : Γ[i]? = some (.own c)) (hw : W (bSeq (bRetO i) r) Γ P) : W (bSeq (bRetOD i) r) Γ P := by
  have : bSeq (bRetOD i) r Γ = bSeq (bRetO i) r Γ := by
    unfold bSeq bRetOD
    rw [h]
  unfold W at hw ⊢
  rw [this]; exact hw
abbrev rwI (rows : List (List Int)) : List (List PyData) := rows.map fun r => r.map PyData.int
theorem flatA_int : ∀ ns : List Int, flat.flatA (ns.map PyData.int) = true
  | [] => rfl
  | n :: ns => by rw [List.map_cons]; unfold flat.flatA; rw [flatA_int ns]; rfl
section
variable (net : List (List Int)) (bs : List Int) (eb : uBitsOf [.d (dTT net)] = .val (.c (.lst (bs.map PyData.int)), [.un])) (hbl : bs.length = net.length) (hn : net.length ≤ 1000) (ts : List Tr) (hts : TrOk net.length ts) (hl : ts.length < 2 ^ 20) (lies : Int)
abbrev tldS (net : List (List Int)) (ts : List Tr) (lies : Int) (lo : Bool) : List Sl := [.dat false (dTT net), .dat false (.list (ts.map pT)), .dat true (.int lies), .dat true (.bool lo), .dat true .none, .un]
include eb hbl hn hts hl in
theorem told_v (lo : Bool) (hlo : lo = true → lies = 0) (hne : stK net.length bs ts lies ≠ []) : u_qtold_k15 [.d (dTT net), .d (.list (ts.map pT)), .d (.int lies), .d (.bool lo)] = .val (.d (sD (stK net.length bs ts lies)), [.un, .un, .un, .un]) := by
  refine unl_d rfl (ok_eq (ok_run rfl ?_))
  unfold b_qtold_k15
  apply w_setX
  · exact x_e e_C
  apply w_try0
  cases lo with
  | true =>
    have h0 := hlo rfl
    subst h0
    apply w_ifY
    · exact t_tst (e_var rfl)
    · rfl
    and_intros
    apply w_setX
    · exact x_call (a_cons (e_var rfl) (a_cons (e_var rfl) a_nil)) rfl (known15_q net bs eb hbl hn false ts hts hl 0 hne)
    apply w_nil
    and_intros
    apply w_retOD rfl
    apply w_ret
    · exact e_var rfl
    exact ⟨_, _, rfl, rfl, rfl⟩
  | false =>
    apply w_ifN
    · exact t_tst (e_var rfl)
    · rfl
    and_intros
    apply w_setX
    · exact x_call (a_cons (e_var rfl) (a_cons (e_var rfl) (a_cons (e_var rfl) a_nil))) rfl (known15_q net bs eb hbl hn false ts hts hl lies hne)
    apply w_nil
    and_intros
    apply w_retOD rfl
    apply w_ret
    · exact e_var rfl
    exact ⟨_, _, rfl, rfl, rfl⟩
include eb hbl hn hts hl in
theorem told_x (lo : Bool) (hlo : lo = true → lies = 0) (h0 : 0 ≤ lies) (he : stK net.length bs ts lies = []) : u_qtold_k15 [.d (dTT net), .d (.list (ts.map pT)), .d (.int lies), .d (.bool lo)] = .val (.c (.tr (.lst [.d (.bool true), lsT (rwI (rowsX net bs ts lies))])), [.un, .un, .un, .un]) := by
  have hx := known15_x net bs eb hbl hn false ts hts hl lies h0 he
  let y : Exn := ⟨"NoTruth", [("rows", sepD (rwI (rowsX net bs ts lies)))], tldS net ts lies lo⟩
  refine unl_c rfl (ok_eq (ok_run rfl ?_)) ?_
  · unfold b_qtold_k15
    apply w_setX
    · exact x_e e_C
    refine w_tryX (y := y) ?_ rfl xo1 ?_
    · cases lo with
      | true =>
        have h1 := hlo rfl
        subst h1
        refine we_ifY (t_tst (e_var rfl)) rfl ?_
        injections
        refine we_setXF ?_
        exact x_callX (y := ⟨"NoTruth", [("rows", sepD (rwI (rowsX net bs ts 0)))], [.un, .un, .un]⟩) (a_cons (e_var rfl) (a_cons (e_var rfl) a_nil)) rfl hx
      | false =>
        refine we_ifN (t_tst (e_var rfl)) rfl ?_
        injections
        refine we_setXF ?_
        exact x_callX (y := ⟨"NoTruth", [("rows", sepD (rwI (rowsX net bs ts lies)))], [.un, .un, .un]⟩) (a_cons (e_var rfl) (a_cons (e_var rfl) (a_cons (e_var rfl) a_nil))) rfl hx
    have e1 : eX (xCall u_qis_alone [] (dAc (dVar 5) (dAc (dIsx ["NoTrial", "NoTruth"] ["NoTruth"] (dVar 5)) dA0))) ((tldS net ts lies lo).set 5 (.dat true (xcD y.cls y.flds))) = .val (.d true (.bool true), (tldS net ts lies lo).set 5 (.dat true (xcD y.cls y.flds))) :=
      e_x (x_call (a_cons (e_var rfl) (a_cons (e_isx (z := true) (e_var rfl) xo3 xo5) a_nil)) rfl (alone_r _)) rfl
    apply w_setX
    · exact x_c (c_l (n_lst (a_cons e1 (a_cons e_C a_nil)) rfl rfl))
    apply w_ifY
    · exact t_tst (e_ixS (e_varO rfl) e_C rfl rfl)
    · rfl
    and_intros
    apply w_put (v := sepD (rwI (rowsX net bs ts lies)))
    · exact e_frz (e_att (e_var rfl) xo3 rfl)
    · rfl
    · exact e_C
    · rfl
    · rfl
    apply w_nil
    and_intros
    apply w_retOO rfl
    apply w_retO rfl
    exact ⟨_, _, rfl, rfl, rfl⟩
  · have : ∀ rows : List (List Int), (rwI rows).all flat.flatA = true := fun rows => List.all_eq_true.mpr fun ds hds => by
      obtain ⟨r, _, rfl⟩ := List.mem_map.mp hds
      exact flatA_int r
    rw [this]; rfl
end
theorem whole15 (n : Int) : u_qwhole [.d (.int n)] = .val (.d (.bool true), [.un]) := whole_t n
theorem isRows_q (rows : List (List Int)) (hr : rows.length ≤ 1000) (hb : ∀ r ∈ rows, r.length ≤ 1000) : u_qis_rows [.d (.list (rows.map dL))] = .val (.d (.bool true), [.un]) := by
  refine ok_eq (ok_run rfl ?_)
  unfold b_qis_rows
  apply w_ifN
  · exact t_not (t_tst (e_isi (e_var rfl) rfl rfl))
  · rfl
  and_intros
  refine w_forL (enc := dL) rows (S := Unit) (fun _ _ => True) (fun _ => [.dat false (.list (rows.map dL)), .un, .un]) () (i_seqL (e_var rfl)) rfl trivial ?_ ?_
  · rintro i r ⟨⟩ hx _
    have hr := hb r (mem_at hx)
    refine ⟨_, rfl, ?_⟩
    have hc := n_comp (enc := PyData.int) r (fun _ => false) (fun n => .int n) (vs := [2]) (g := gN 2) (it := iSeq (dVar 1)) (t := dTnot (dTst (eX (xCall u_qwhole [] (dAc (dVar 2) dA0))))) (e := dFrz (dVar 2)) (Γ := [.dat false (.list (rows.map dL)), .dat false (dL r), .un]) (i_seqL (e_var rfl)) (by omega) rfl fun n hn => ⟨_, rfl, rfl, t_not (z := true) (t_tst (e_x (x_call (a_cons (e_var rfl) a_nil) rfl (whole15 n)) rfl)), fun h => by cases h⟩
    rw [show r.filter (fun _ => false) = [] from List.filter_eq_nil_iff.mpr fun _ _ h => by cases h] at hc
    apply w_ifN
    · exact t_or (t_not (t_tst (e_isi (e_var rfl) rfl rfl))) fun _ => t_tst (e_cmp (e_ofN hc) (e_ofN (n_lst a_nil rfl rfl)) (k_neT (eqt_list eqt_int) (by decide) (x := []) (y := []) rfl rfl))
    · rfl
    and_intros
    exact w_nil ⟨(), rfl, trivial⟩
  · rintro ⟨⟩ _
    apply w_ret
    · exact e_C
    exact ⟨_, _, rfl, rfl, rfl⟩
theorem lsA_pT (fr : Bool) (ts : List Tr) (Γ : List Sl) : lsA Γ (.d fr (.list (ts.map pT))) = some (ts.map pT) := by
  unfold lsA
  simp only [flatA_pT, Bool.or_true, if_true]
theorem noTrial_q (net : List (List Int)) (ts : List Tr) (hts : TrOk net.length ts) (hl : ts.length ≤ 200) (lies : Int) : u_qno_trial [.d (dTT net), .d (.list (ts.map pT)), .d (.int lies)] = .val (.d (.bool true), [.un, .un, .un]) := by
  refine ok_eq (ok_run rfl ?_)
  unfold b_qno_trial
  by_cases h9 : 199 < ts.length
  · apply w_ifY
    · exact t_tst (e_cmp (e_B (a_cons (e_var rfl) a_nil) (k_lenI (enc := pT) (xs := ts) rfl)) e_C k_I)
    · exact decide_eq_true (by omega)
    and_intros
    apply w_ret
    · exact e_C
    exact ⟨_, _, rfl, rfl, rfl⟩
  apply w_ifN
  · exact t_tst (e_cmp (e_B (a_cons (e_var rfl) a_nil) (k_lenI (enc := pT) (xs := ts) rfl)) e_C k_I)
  · exact decide_eq_false (by omega)
  and_intros
  apply w_setX
  · exact x_c (c_l (n_lst a_nil rfl rfl))
  let bads : List Tr := [((net.length : Int), "good"), (0, "Good"), (-1, "bad")]
  have hbad : ∀ q ∈ bads, BadT net.length q := fun q hq => by
    simp only [bads, List.mem_cons, List.not_mem_nil, or_false] at hq
    rcases hq with rfl | rfl | rfl
    · exact .inl (by dsimp only; omega)
    · exact .inr (by simp [textsL])
    · exact .inl (by dsimp only; omega)
  refine w_forL (enc := pT) bads (S := Nat) (fun i s => s = i) (fun s => [.dat false (dTT net), .dat false (.list (ts.map pT)), .dat true (.int lies), .own (.lst (List.replicate s (.bool true))), .un, .un]) 0 (i_seqT (e_tup (ds := bads.map pT) (a_cons (e_tup (a_cons (e_B (a_cons (e_var rfl) a_nil) (k_lenJ rfl)) (a_cons e_C a_nil)) rfl rfl) (a_cons (e_tup (a_cons e_C (a_cons e_C a_nil)) rfl rfl) (a_cons (e_tup (a_cons (e_neg e_C) (a_cons e_C a_nil)) rfl rfl) a_nil))) rfl rfl)) rfl rfl ?_ ?_
  · rintro i q s hx rfl
    have hi : s < 3 := (List.getElem?_eq_some_iff.mp hx).1
    have hq := hbad q (mem_at hx)
    refine ⟨_, rfl, ?_⟩
    have hk := known15_b (us := ts ++ [q]) (j := ts.length) (q := q) lies (by simp) hq (fun i p hi hp => hts p (by
      rw [List.getElem?_append_left hi] at hp
      exact mem_at hp)) (by simp; omega)
    rw [List.map_append] at hk
    let e : PyData := xcD "NoTrial" [("place", .int (ts.length : Nat))]
    have hwe : WE (bSeq (bExprX (xCall u_p_known_k15 [] (dAc (dVar 0) (dAc (dOfN (dCat (dVar 1) (dOfN (dLst (dAc (dFrz (dVar 4)) dA0))))) (dAc (dVar 2) dA0))))) bNil) [.dat false (dTT net), .dat false (.list (ts.map pT)), .dat true (.int lies), .own (.lst (List.replicate s (.bool true))), .dat true (pT q), .un] ⟨"NoTrial", [("place", .int (ts.length : Nat))], [.dat false (dTT net), .dat false (.list (ts.map pT)), .dat true (.int lies), .own (.lst (List.replicate s (.bool true))), .dat true (pT q), .un]⟩ := by
      refine we_exprX ?_
      exact x_callX (y := ⟨"NoTrial", [("place", .int (ts.length : Nat))], [.un, .un, .un]⟩) (a_cons (e_var rfl) (a_cons (e_ofN (n_cat (e_var rfl) (e_ofN (n_lst (a_cons (e_frzT (e_var rfl) rfl) a_nil) rfl rfl)) (lsA_pT false ts _) rfl (decide_eq_true (by rw [List.length_append, List.length_map]; exact Nat.le_trans (show ts.length + 1 ≤ 201 by omega) (by decide))))) (a_cons (e_var rfl) a_nil))) rfl hk
    refine w_tryX hwe rfl xo2 ?_
    apply w_ifY
    · exact t_and (t_tst (e_x (x_call (a_cons (e_var rfl) (a_cons (e_isx (z := true) (e_var rfl) xo4 xo6) a_nil)) rfl (alone_p _)) rfl)) fun _ => t_tst (e_cmp (e_att (d := .int (ts.length : Nat)) (e_var rfl) xo4 rfl) (e_B (a_cons (e_var rfl) a_nil) (k_lenI (enc := pT) (xs := ts) rfl)) k_eqI)
    · rw [decide_eq_true rfl]; rfl
    and_intros
    apply w_expr
    · apply e_ap
      · rfl
      · exact e_frz e_C
      · rfl
      · exact ltS_of (by rw [List.length_replicate]; omega)
    apply w_nil
    and_intros
    refine w_nil ⟨s + 1, ?_, rfl⟩
    rw [List.replicate_succ']
    rfl
  · intro s hs
    have hs : s = 3 := hs
    subst hs
    apply w_ret
    · exact e_cmp (z := true) (e_varO rfl) (e_ofN (n_lst (ds := [.bool true, .bool true, .bool true]) (a_cons e_C (a_cons e_C (a_cons e_C a_nil))) rfl rfl)) (k_eq (p := .list [.bool true, .bool true, .bool true]) (q := .list [.bool true, .bool true, .bool true]) rfl rfl rfl rfl (SeqAt.eqv_refl _ rfl))
    exact ⟨_, _, rfl, rfl, rfl⟩
end PDW
set_option linter.all false
set_option maxRecDepth 100000
set_option maxHeartbeats 0
set_option autoImplicit false
namespace PDW
open PySem L2 PD
theorem run_w15 {b : DS} {as : List Ar} {Γ' Z : List Sl} {c c0 : Cl} {n np i : Nat} (hl : as.length = np) (hi : (initS n as)[i]? = some (.io c0)) (h : b (initS n as) = .val (.nx, Γ')) (h4 : Γ'[i]? = some (.io c)) (hz : cellsAt as Γ' = some Z) : runB n np (bW i b) as = .val (.d .none, Z) := by
  refine ok_eq (ok_run hl ?_)
  refine ⟨(.nx, Γ'), ?_, _, _, rfl, hz, rfl⟩
  unfold bW
  rw [hi]
  dsimp only
  rw [h, bind_val]
  dsimp only
  rw [h4]
abbrev goods (net : List (List Int)) : List Tr := (rng 0 (net.length : Nat)).map fun m => (m, ("good" : Str))
theorem goods_ok (net : List (List Int)) : TrOk net.length (goods net) := fun q hq => by
  obtain ⟨m, hm, rfl⟩ := List.mem_map.mp hq
  have := rng_mem.mp hm
  exact ⟨this.1, this.2, by simp [ansL]⟩
theorem insert_ok {n : Nat} {ts : List Tr} {q : Tr} (a : Int) (hts : TrOk n ts) (hq : 0 ≤ q.1 ∧ q.1 < (n : Int) ∧ q.2 ∈ ansL) : TrOk n (insI ts a q) ∧ (insI ts a q).length = ts.length + 1 := by
  have hperm := ins_perm ts a q
  refine ⟨fun x hx => ?_, by rw [hperm.length_eq]; simp⟩
  rcases List.mem_append.mp (hperm.mem_iff.mp hx) with h | h
  · exact hts x h
  · have e : x = q := by simpa using h
    rw [e]; exact hq
theorem putIn_q (d : Dk3) (net : List (List Int)) (h1 : 1 ≤ net.length) (hn : net.length ≤ 1000) (ts : List Tr) (hts : TrOk net.length ts) (hl : ts.length ≤ 200) (lies : Int) (l0 : 0 ≤ lies) (l1 : lies < 4) :
    ∃ (d' : Dk3) (us : List Tr), u_qput_in [.c (dk d), .d (dTT net), .c (.lst (ts.map pT)), .d (.int lies)] = .val (.d .none, [.io (dk d'), .un, .io (.lst (us.map pT)), .un]) ∧ TrOk net.length us ∧ us.length ≤ 200 := by
  have key : W b_qput_in [.io (dk d), .dat false (dTT net), .io (.lst (ts.map pT)), .dat true (.int lies), .un, .un, .un, .un] fun w Γ => w = .nx ∧ ∃ (d' : Dk3) (us : List Tr) (s3 s4 s5 s6 s7 : Sl), Γ = [.io (dk d'), .dat false (dTT net), .io (.lst (us.map pT)), s3, s4, s5, s6, s7] ∧ TrOk net.length us ∧ us.length ≤ 200 := by
    unfold b_qput_in
    apply w_setC
    · exact c_l (n_map (enc := PyData.int) (rng 0 (net.length : Nat)) (fun m => pT (m, ("good" : Str))) (i_range1 (e_B (a_cons (e_var rfl) a_nil) (k_lenJ rfl)) (cRng_of (by decide) (by decide) (by omega) (by omega))) (by rw [rng_len]; omega) rfl fun m hm => ⟨_, rfl, rfl, e_frz (e_tup (a_cons (e_frz (e_var rfl)) (a_cons e_C a_nil)) rfl rfl)⟩)
    have eg : (rng 0 (net.length : Nat)).map (fun m => pT (m, ("good" : Str))) = (goods net).map pT := by
      unfold goods; rw [List.map_map]; rfl
    rw [eg]
    obtain ⟨z, d1, hz, z0, z1⟩ := take_t d 2 (by omega) (by omega)
    refine w_ifJ (S := Dk3 × List Tr) (fun s => TrOk net.length s.2 ∧ s.2.length ≤ 1001) (fun s => [.io (dk s.1), .dat false (dTT net), .io (.lst (ts.map pT)), .dat true (.int lies), .own (.lst (s.2.map pT)), .un, .un, .un]) (t_tst (e_cmp (e_x (x_callE (a_cons (e_varI rfl) (a_cons e_C a_nil)) rfl rfl rfl rfl hz rfl rfl) rfl) e_C k_eqI)) ?_ ?_ ?_
    · intro _
      let p : Int → Bool := fun m => decide (m = 0) || decide ((net[m.toNat]?.getD []) = [])
      have hc := n_comp (enc := PyData.int) (rng 0 (net.length : Nat)) p (fun m => pT (m, ("good" : Str))) (vs := [7]) (g := gN 7) (it := iRange1 (dB kLen (dAc (dVar 1) dA0))) (t := dTor (dTst (dCmp kEq (dVar 7) (dC (.int 0)))) (dTst (dCmp kEq (dIxB (dVar 1) (dVar 7)) (dTup dA0)))) (e := dFrz (dTup (dAc (dFrz (dVar 7)) (dAc (dC (.str "good")) dA0)))) (Γ := [.io (dk d1), .dat false (dTT net), .io (.lst (ts.map pT)), .dat true (.int lies), .own (.lst ((goods net).map pT)), .un, .un, .un]) (i_range1 (e_B (a_cons (e_var rfl) a_nil) (k_lenJ rfl)) (cRng_of (by decide) (by decide) (by omega) (by omega))) (by rw [rng_len]; omega) rfl fun m hm => by
        have hm := rng_mem.mp hm
        obtain ⟨m, rfl⟩ : ∃ k : Nat, m = (k : Int) := ⟨m.toNat, by omega⟩
        obtain ⟨r, hr⟩ : ∃ r, net[m]? = some r := ⟨_, List.getElem?_eq_getElem (by omega)⟩
        refine ⟨_, rfl, rfl, ?_, fun _ => e_frz (e_tup (a_cons (e_frz (e_var rfl)) (a_cons e_C a_nil)) rfl rfl)⟩
        have hp : p (m : Int) = (decide ((m : Int) = 0) || decide (r = [])) := by
          show (decide ((m : Int) = 0) || decide ((net[((m : Nat) : Int).toNat]?.getD []) = [])) = _
          rw [Int.toNat_natCast, hr]; rfl
        rw [hp]
        exact t_or (t_tst (e_cmp (e_var rfl) e_C k_eqI)) fun _ => t_tst (e_cmp (e_ixT (e_var rfl) (e_var rfl) (at_nat hr)) (e_tup a_nil rfl rfl) (k_eqT (eqt_tup eqt_int) (by decide) (x := r) (y := []) rfl rfl))
      apply w_setC
      · exact c_l hc
      have eg : ((rng 0 (net.length : Nat)).filter p).map (fun m => pT (m, ("good" : Str))) = (((rng 0 (net.length : Nat)).filter p).map fun m => (m, ("good" : Str))).map pT := by
        rw [List.map_map]; rfl
      rw [eg]
      have hgo : TrOk net.length (((rng 0 (net.length : Nat)).filter p).map fun m => (m, ("good" : Str))) := fun q hq => by
        obtain ⟨m, hm, rfl⟩ := List.mem_map.mp hq
        have := rng_mem.mp (List.mem_filter.mp hm).1
        exact ⟨this.1, this.2, by simp [ansL]⟩
      have hgl : (((rng 0 (net.length : Nat)).filter p).map fun m => (m, ("good" : Str))).length ≤ 1000 := by
        rw [List.length_map]
        have := List.length_filter_le p (rng 0 (net.length : Nat))
        rw [rng_len] at this
        omega
      generalize ((rng 0 (net.length : Nat)).filter p).map (fun m => (m, ("good" : Str))) = go at hgo hgl
      clear hc eg
      obtain ⟨mk, d2, hk, k0, k1⟩ := take_t d1 (net.length : Nat) (by omega) (by omega)
      apply w_expr
      · apply e_ap
        · rfl
        · exact e_frz (e_tup (a_cons (e_x (x_callE (a_cons (e_varI rfl) (a_cons (e_B (a_cons (e_var rfl) a_nil) (k_lenJ rfl)) a_nil)) rfl rfl rfl rfl hk rfl rfl) rfl) (a_cons e_C a_nil)) rfl rfl)
        · rfl
        · exact ltS_map (by omega)
      refine w_nil ⟨(d2, go ++ [(mk, ("bad" : Str))]), by rw [List.map_append]; rfl, fun q hq => ?_, by dsimp only; rw [List.length_append]; simp; omega⟩
      rcases List.mem_append.mp hq with h | h
      · exact hgo q h
      · have e : q = (mk, ("bad" : Str)) := by simpa using h
        rw [e]; exact ⟨k0, k1, by simp [ansL]⟩
    · intro _
      exact w_nil ⟨(d1, goods net), rfl, goods_ok net, by dsimp only; rw [List.length_map, rng_len]; omega⟩
    · rintro ⟨d2, more⟩ ⟨hm, hml⟩
      dsimp only at hm hml ⊢
      refine w_forR (N := lies + 1) (S := Dk3 × List Tr × Sl) (fun _ s => TrOk net.length s.2.1 ∧ s.2.1.length ≤ 200 ∧ (s.2.2 = .own (.lst (more.map pT)) ∨ s.2.2 = .dat true (.list (more.map pT)))) (fun s => [.io (dk s.1), .dat false (dTT net), .io (.lst (s.2.1.map pT)), .dat true (.int lies), s.2.2, .un, .un, .un]) (d2, ts, .own (.lst (more.map pT))) (i_range1 (e_add (e_var rfl) e_C) (cRng_of (by decide) (by decide) (by omega) (by omega))) rfl ⟨hts, hl, .inl rfl⟩ ?_ ?_
      · rintro i ⟨d3, us, s4⟩ hi ⟨q1, q2, q3⟩
        dsimp only at q1 q2 q3 ⊢
        refine ⟨_, rfl, ?_⟩
        have inner : W (bSeq (bFor [6] (gN 6) (iSeq (dVar 4)) (bSeq (bIf (dTst (dCmp (kI fun i j => decide (i < j)) (dB kLen (dAc (dVar 2) dA0)) (dC (.int 200)))) (bSeq (bExpr (dLm 2 qInsert (dAc (eX (xCallC u_qtake 0 [] (dAc (dVar 0) (dAc (dAdd (dB kLen (dAc (dVar 2) dA0)) (dC (.int 1))) dA0)))) (dAc (dFrz (dVar 6)) dA0)))) bNil) bNil) bNil)) bNil) [.io (dk d3), .dat false (dTT net), .io (.lst (us.map pT)), .dat true (.int lies), .dat true (.list (more.map pT)), .dat true (.int (i : Nat)), .un, .un] fun w Γ2 => match w with
            | .nx => ∃ s' : Dk3 × List Tr × Sl, wipeG Γ2 [5, 6] = [.io (dk s'.1), .dat false (dTT net), .io (.lst (s'.2.1.map pT)), .dat true (.int lies), s'.2.2, .un, .un, .un] ∧ TrOk net.length s'.2.1 ∧ s'.2.1.length ≤ 200 ∧ (s'.2.2 = .own (.lst (more.map pT)) ∨ s'.2.2 = .dat true (.list (more.map pT)))
            | _ => False := by
          refine w_forL (enc := pT) more (S := Dk3 × List Tr) (fun _ s => TrOk net.length s.2 ∧ s.2.length ≤ 200) (fun s => [.io (dk s.1), .dat false (dTT net), .io (.lst (s.2.map pT)), .dat true (.int lies), .dat true (.list (more.map pT)), .dat true (.int (i : Nat)), .un, .un]) (d3, us) (i_seqL (e_var rfl)) rfl ⟨q1, q2⟩ ?_ ?_
          · rintro j q ⟨d4, vs⟩ hx ⟨r1, r2⟩
            dsimp only at r1 r2 ⊢
            have hq := hm q (mem_at hx)
            refine ⟨_, rfl, ?_⟩
            by_cases h2 : vs.length < 200
            · apply w_ifY
              · exact t_tst (e_cmp (e_B (a_cons (e_varI rfl) a_nil) (k_lenI (enc := pT) (xs := vs) rfl)) e_C k_I)
              · exact decide_eq_true (by omega)
              and_intros
              obtain ⟨a, d5, ha, a0, a1⟩ := take_t d4 ((vs.length : Nat) + 1) (by omega) (by omega)
              obtain ⟨g1, g2⟩ := insert_ok a r1 hq
              apply w_expr
              · apply e_ins (n := a) (ds := vs.map pT) (y := pT q)
                · rfl
                · exact a_cons (e_x (x_callE (a_cons (e_varI rfl) (a_cons (e_add (e_B (a_cons (e_varI rfl) a_nil) (k_lenI (enc := pT) (xs := vs) rfl)) e_C) a_nil)) rfl rfl rfl rfl ha rfl rfl) rfl) (a_cons (e_frz (e_var rfl)) a_nil)
                · rfl
                · unfold cIns
                  rw [decide_eq_true (show (vs.map pT).length < sizeLine by rw [List.length_map]; exact Nat.lt_of_lt_of_le h2 (by decide)), decide_eq_true (show 0 ≤ a ∧ a < 2 ^ 63 by omega)]; rfl
              rw [← ins_mapG pT vs a q]
              exact w_nil ⟨(d5, insI vs a q), rfl, g1, by dsimp only; omega⟩
            · apply w_ifN
              · exact t_tst (e_cmp (e_B (a_cons (e_varI rfl) a_nil) (k_lenI (enc := pT) (xs := vs) rfl)) e_C k_I)
              · exact decide_eq_false (by omega)
              and_intros
              apply w_nil
              exact ⟨(d4, vs), rfl, r1, r2⟩
          · rintro ⟨d4, vs⟩ ⟨r1, r2⟩
            exact w_nil ⟨(d4, vs, .dat true (.list (more.map pT))), rfl, r1, r2, .inr rfl⟩
        rcases q3 with rfl | rfl
        · refine w_frz rfl rfl (inner.mono fun z hz => ?_)
          obtain ⟨w, Γ2⟩ := z
          cases w with
          | nx => exact hz
          | bk => exact hz.elim
          | ct => exact hz.elim
          | rt q => exact hz.elim
        · refine w_frzN rfl (inner.mono fun z hz => ?_)
          obtain ⟨w, Γ2⟩ := z
          cases w with
          | nx => exact hz
          | bk => exact hz.elim
          | ct => exact hz.elim
          | rt q => exact hz.elim
      · rintro ⟨d3, us, s4⟩ ⟨q1, q2, q3⟩
        exact w_nil ⟨rfl, d3, us, _, _, _, _, _, rfl, q1, q2⟩
  obtain ⟨⟨w, Γ⟩, e, rfl, d', us, s3, s4, s5, s6, s7, rfl, g1, g2⟩ := key
  refine ⟨d', us, ?_, g1, g2⟩
  exact run_w15 (i := 2) rfl rfl e rfl rfl
end PDW
set_option linter.all false
set_option maxRecDepth 100000
set_option autoImplicit false
namespace PD
open PySem L2
end PD
set_option linter.all false
set_option maxRecDepth 100000
set_option maxHeartbeats 0
set_option autoImplicit false
namespace PD
open PySem L2
inductive Pl where
  | lf (ms : List Int)
  | tr (m : Int) (b g : Pl)
end PD
set_option linter.all false
set_option maxRecDepth 100000
set_option maxHeartbeats 0
set_option autoImplicit false
namespace PD
open PySem L2
end PD
set_option linter.all false
set_option maxRecDepth 100000
set_option maxHeartbeats 0
set_option autoImplicit false
namespace PD
open PySem L2
def room (lies : Int) : List (Int × Int) → Int
  | [] => 0
  | z :: st => (lies + 1 - z.2) + room lies st
end PD
set_option linter.all false
set_option maxRecDepth 100000
set_option maxHeartbeats 0
set_option autoImplicit false
namespace PD
open PySem L2
end PD
set_option linter.all false
set_option maxRecDepth 100000
set_option autoImplicit false
namespace PD
open PySem L2
end PD
set_option linter.all false
set_option maxRecDepth 100000
set_option maxHeartbeats 0
set_option autoImplicit false
namespace PD
open PySem L2
end PD
set_option linter.all false
set_option maxRecDepth 100000
set_option maxHeartbeats 0
set_option autoImplicit false
namespace PDW
open PySem L2 PD
structure NKey {κ : Type} (kD : κ → PyData) : Prop where
  ok : ∀ k, nkOk (kD k) = true
  inj : ∀ a b, nkD (kD a) = nkD (kD b) → a = b
  eq : ∀ a, eqN (kD a) (kD a) = true
section
variable {κ ω : Type} {kD : κ → PyData} {vD : ω → PyData}
abbrev nD (kD : κ → PyData) (vD : ω → PyData) (l : List (κ × ω)) : List (PyData × PyData) := l.map fun z => (kD z.1, vD z.2)
variable {f g : DF} {Γ Γ1 Γ2 : List Sl} {fr fr2 : Bool} {m : Nat}
end
end PDW
set_option linter.all false
set_option maxRecDepth 100000
set_option autoImplicit false
namespace PD
open PySem L2
section
variable {Γ Γ1 Γ2 Γ3 : List Sl} {f g h : DF} {b r s : DS} {P : Fw → List Sl → Prop} {i j m : Nat} {ds es : List PyData} {fr : Bool} {a a2 : AV}
end
end PD
set_option linter.all false
set_option maxRecDepth 100000
set_option maxHeartbeats 0
set_option autoImplicit false
namespace PDW
open PySem L2 PD
open PySem.W (dataLt dataLe alike)
structure TKey {κ : Type} [DecidableEq κ] (kD : κ → PyData) : Prop where
  eq : ∀ a b, eqK (kD a) (kD b) = decide (a = b)
  ok : ∀ a, kOk .t (kD a) = true
  tp : ∀ a, ∃ xs, kD a = .tuple xs
  fl : ∀ a, flat (kD a) = true
section
variable {κ ω : Type} [DecidableEq κ] {kD : κ → PyData} {vD : ω → PyData} {Γ Γ1 Γ2 : List Sl} {f g : DF} {fr fr2 : Bool} {m : Nat}
end
end PDW
set_option linter.all false
set_option maxRecDepth 100000
set_option maxHeartbeats 0
set_option autoImplicit false
namespace PD
open PySem L2 PDW
open PySem.W (dataLt dataLe alike)
theorem x_cutE {Γ Γ1 Γ2 : List Sl} {f : DF} {o : DO} {a : AV} {ds : List PyData} (h1 : f Γ = .val (a, Γ1)) (h2 : o Γ1 = .val (some 1, Γ2)) (h3 : lsA Γ2 a = some ds) : xCut f o oNone Γ = .val (.c (.lst (ds.drop 1)), Γ2) := by
  unfold xCut
  rw [h1, bind_val, h2, bind_val]
  unfold cutX
  simp only [oNone, bind_val, h3]
  have : cutD ds (some 1) none = ds.drop 1 := by
    unfold cutD
    rw [HT.sIx_none, show (some (1 : Int)) = some ((1 : Nat) : Int) from rfl, HT.sIx_nat]
    cases ds with
    | nil => rfl
    | cons x r =>
      rw [Nat.min_eq_left (by simp)]
      exact List.take_of_length_le (by simp)
  rw [this]
end PD
set_option linter.all false
set_option maxRecDepth 100000
set_option maxHeartbeats 0
set_option autoImplicit false
namespace PDW
open PySem L2 PD
theorem t_lk {i : Nat} {T : Tre} {d : PyData} {t : DT} {Γ Γ2 : List Sl} {z : Bool} (h1 : Γ[i]? = some (.own (.tr T))) (h2 : trD T = some d) (h3 : allFix Γ i = true) (h4 : t (Γ.set i (.dat true d)) = .val (z, Γ2)) : tLkT i t Γ = .val (z, Γ) := by
  unfold tLkT
  rw [h1]
  dsimp only
  rw [h2]
  dsimp only
  rw [h3, h4]; rfl
abbrev tldT (dss : List (List PyData)) : Tre := .lst [.d (.bool true), lsT dss]
theorem trD_tld (dss : List (List PyData)) : trD (tldT dss) = some (.list [.bool true, .list (dss.map PyData.list)]) := by
  rw [trD, trDs, trD, trDs, trD_ls, trDs]; rfl
theorem rwI_l (rows : List (List Int)) : (rwI rows).map PyData.list = rows.map dL := by
  rw [List.map_map]; rfl
theorem e_app7 {Γ : List Sl} {i : Nat} {r0 : List PyData} {rest : List (List PyData)} (h : Γ[i]? = some (.own (.tr (tldT (r0 :: rest))))) (hl : r0.length ≤ 1000) : dAppP i (pIx (pIx pVar 1) 0) (rC (.int 7)) Γ = .val (.d true .none, Γ.set i (.own (.tr (tldT ((r0 ++ [.int 7]) :: rest))))) := by
  have hc : cellAt Γ i = some (false, .tr (tldT (r0 :: rest))) := by
    unfold cellAt
    rw [h]
  have hp : pPart i (pIx (pIx pVar 1) 0) Γ = some ([.ix 1, .ix 0], false, tldT (r0 :: rest), .lst (r0.map Tre.d)) := by
    show ((partA Γ i [.ix 1, .ix 0]).map fun z => (([.ix 1, .ix 0] : List Stp), z)) = _
    unfold partA
    rw [hc]
    rfl
  unfold dAppP
  rw [hp, ofO_some, bind_val]
  show (((R.ofO (some (true, PyData.int 7))).bind _)) = _
  rw [ofO_some, bind_val]
  have hs : ltS (r0.map Tre.d) = true := ltS_map (by omega)
  show ((R.req (ltS (r0.map Tre.d))).bind _) = _
  rw [hs]
  show R.val (AV.d true .none, Γ.set i (.own (.tr ((tldT (r0 :: rest)).put [.ix 1, .ix 0] (.lst (r0.map Tre.d ++ [.d (.int 7)])))))) = _
  have : (tldT (r0 :: rest)).put [.ix 1, .ix 0] (.lst (r0.map Tre.d ++ [.d (.int 7)])) = tldT ((r0 ++ [.int 7]) :: rest) := by
    show Tre.lst [.d (.bool true), .lst (.lst (r0.map Tre.d ++ [.d (.int 7)]) :: rest.map fun ds => .lst (ds.map Tre.d))] = _
    unfold tldT lsT
    rw [List.map_cons, List.map_append]; rfl
  rw [this]
theorem w_pop15 {Γ : List Sl} {i : Nat} {dss : List (List PyData)} {r : DS} {P : Fw → List Sl → Prop} (h : Γ[i]? = some (.own (.tr (tldT dss)))) (hn : dss ≠ []) (hw : W r (Γ.set i (.own (.tr (tldT dss.dropLast)))) P) : W (bSeq (bPopP i (pIx pVar 1)) r) Γ P := by
  refine w_one ⟨_, ?_, hw⟩
  have hc : cellAt Γ i = some (false, .tr (tldT dss)) := by
    unfold cellAt
    rw [h]
  have hp : pPart i (pIx pVar 1) Γ = some ([.ix 1], false, tldT dss, lsT dss) := by
    show ((partA Γ i [.ix 1]).map fun z => (([.ix 1] : List Stp), z)) = _
    unfold partA
    rw [hc]
    rfl
  unfold bPopP
  rw [hp, ofO_some, bind_val]
  have he : (!(dss.map fun ds => Tre.lst (ds.map Tre.d)).isEmpty) = true := by
    cases dss with
    | nil => exact absurd rfl hn
    | cons _ _ => rfl
  show ((R.req (!(dss.map fun ds => Tre.lst (ds.map Tre.d)).isEmpty)).bind _) = _
  rw [he]
  show R.val (Fw.nx, Γ.set i (.own (.tr ((tldT dss).put [.ix 1] (.lst (dss.map fun ds => Tre.lst (ds.map Tre.d)).dropLast))))) = _
  have : (tldT dss).put [.ix 1] (.lst (dss.map fun ds => Tre.lst (ds.map Tre.d)).dropLast) = tldT dss.dropLast := by
    show Tre.lst [.d (.bool true), .lst (dss.map fun ds => Tre.lst (ds.map Tre.d)).dropLast] = _
    unfold tldT lsT
    rw [List.map_dropLast]
  rw [this]
abbrev tr0 : Tr := (0, "")
theorem zip_get (ts : List Tr) : ts.zipIdx = (rng 0 (ts.length : Nat)).map fun p : Int => (ts[p.toNat]?.getD tr0, p.toNat) := by
  apply List.ext_getElem?
  intro i
  rw [List.getElem?_zipIdx, List.getElem?_map]
  by_cases hi : i < ts.length
  · rw [List.getElem?_eq_getElem hi, List.getElem?_eq_getElem (show i < (rng 0 (ts.length : Nat)).length by rw [rng_len]; omega)]
    have e := (rng_at (List.getElem?_eq_getElem (show i < (rng 0 (ts.length : Nat)).length by rw [rng_len]; omega))).1
    rw [Option.map_some, Option.map_some, e]
    have : ((0 : Int) + (i : Nat)).toNat = i := by omega
    simp [this, hi]
  · rw [List.getElem?_eq_none (by omega), List.getElem?_eq_none (by rw [rng_len]; omega)]; rfl
theorem plcs_rng (bs : List Int) (ts : List Tr) (m : Int) : ((rng 0 (ts.length : Nat)).filter fun p : Int => spm bs (ts[p.toNat]?.getD tr0) m) = plcs bs ts m := by
  unfold plcs
  rw [zip_get, List.filter_map, List.map_map]
  have e : ((fun z : Tr × Nat => spm bs z.1 m) ∘ fun p : Int => (ts[p.toNat]?.getD tr0, p.toNat)) = fun p : Int => spm bs (ts[p.toNat]?.getD tr0) m := rfl
  rw [e]
  refine (List.map_id _).symm.trans (List.map_congr_left fun p hp => ?_)
  have := rng_mem.mp (List.mem_filter.mp hp).1
  show p = ((p.toNat : Nat) : Int)
  omega
theorem k_min15 {Γ : List Sl} {a : AV} {ns : List Int} {m : Int} (h : rdInts Γ a = some ns) (hm : minL ns = some m) : kMin1 Γ [a] = .val (.d true (.int m)) := by
  show ((R.ofO ((rdInts _ _).bind minL)).bind _) = _
  rw [h, Option.bind_some, hm]; rfl
theorem min_cnt (net : List (List Int)) (bs : List Int) (ts : List Tr) (lies : Int) (h1 : 1 ≤ net.length) : ∃ m, minL ((krows net bs ts).map fun r => ((r.length : Nat) : Int)) = some m ∧ decide (m ≤ lies) = decide (stK net.length bs ts lies ≠ []) := by
  obtain ⟨m, hm⟩ : ∃ m, minL ((krows net bs ts).map fun r => ((r.length : Nat) : Int)) = some m := by
    cases h : (krows net bs ts).map fun r => ((r.length : Nat) : Int) with
    | nil =>
      have := congrArg List.length h
      rw [List.length_map, List.length_map, rng_len, List.length_nil] at this
      omega
    | cons x xs => exact ⟨_, rfl⟩
  refine ⟨m, hm, ?_⟩
  obtain ⟨_, g1, g2⟩ := minL_ok hm
  rw [decide_eq_decide]
  obtain ⟨r, hr, e⟩ := List.mem_map.mp g1
  obtain ⟨k, hk, rfl⟩ := List.mem_map.mp hr
  have hk' := rng_mem.mp hk
  constructor
  · intro hle hne
    have : (k, cnt bs ts k) ∈ stK net.length bs ts lies := stK_mem.mpr ⟨hk', rfl, by dsimp only; rw [← plcs_len]; omega⟩
    rw [hne] at this
    cases this
  · intro hne
    obtain ⟨z, zs, hz⟩ : ∃ z zs, stK net.length bs ts lies = z :: zs := by
      cases h : stK net.length bs ts lies with
      | nil => exact absurd h hne
      | cons z zs => exact ⟨z, zs, rfl⟩
    obtain ⟨z1, z2, z3⟩ := stK_mem.mp (show z ∈ stK net.length bs ts lies by rw [hz]; simp)
    have := g2 ((plcs bs ts z.1).length : Nat) (List.mem_map.mpr ⟨plcs bs ts z.1, List.mem_map.mpr ⟨z.1, rng_mem.mpr z1, rfl⟩, rfl⟩)
    rw [plcs_len] at this
    omega
end PDW
set_option linter.all false
set_option maxRecDepth 100000
set_option maxHeartbeats 0
set_option autoImplicit false
namespace PDW
open PySem L2 PD
theorem w_frzS {m : Nat} {fr : Bool} {d : PyData} {g r : DS} {Γ : List Sl} {P : Fw → List Sl → Prop} (h : Γ[m]? = some (.dat fr d)) (hw : W (bSeq g r) Γ P) : W (bSeq (bFrz m g) r) Γ P := by
  have : bSeq (bFrz m g) r Γ = bSeq g r Γ := by
    unfold bSeq bFrz
    simp only [h]
  unfold W at hw ⊢
  rw [this]; exact hw
section
variable (net : List (List Int)) (bs : List Int) (hB : BitsOk net bs) (eb : uBitsOf [.d (dTT net)] = .val (.c (.lst (bs.map PyData.int)), [.un])) (h1 : 1 ≤ net.length) (hn : net.length ≤ 1000) (rs : List (List Int)) (hrl : rs.length = net.length) (hR : FromOk net rs) (ts : List Tr) (hts : TrOk net.length ts) (hl : ts.length ≤ 200) (lies : Int) (l0 : 0 ≤ lies)
abbrev rgS (net rs : List (List Int)) (ts : List Tr) (lies : Int) (q4 q5 q6 q7 q8 q9 : Sl) : List Sl := [.dat false (dTT net), .dat false (.list (rs.map dOne)), .dat false (.list (ts.map pT)), .dat true (.int lies), q4, q5, q6, q7, q8, q9, .un, .un]
include hB hrl hR hts hl in
theorem row_e (m : Nat) (L : List PyData) : dFrz (dOfN (nComp [10] (gN 10) (iRange1 (dB kLen (dAc (dVar 2) dA0))) (dTst (eX (xCall u_qspeaks [] (dAc (dVar 1) (dAc (dIxB (dVar 2) (dVar 10)) (dAc (dVar 5) dA0)))))) (dFrz (dVar 10)))) (rgS net rs ts lies (.own (.lst L)) (.dat true (.int (m : Nat))) .un .un .un .un) = .val (.d true (dL (plcs bs ts (m : Nat))), rgS net rs ts lies (.own (.lst L)) (.dat true (.int (m : Nat))) .un .un .un .un) := by
  refine e_frz (e_ofN ?_)
  have hc := n_comp (enc := PyData.int) (rng 0 (ts.length : Nat)) (fun p => spm bs (ts[p.toNat]?.getD tr0) (m : Nat)) (fun p => .int p) (vs := [10]) (g := gN 10) (it := iRange1 (dB kLen (dAc (dVar 2) dA0))) (t := dTst (eX (xCall u_qspeaks [] (dAc (dVar 1) (dAc (dIxB (dVar 2) (dVar 10)) (dAc (dVar 5) dA0)))))) (e := dFrz (dVar 10)) (Γ := rgS net rs ts lies (.own (.lst L)) (.dat true (.int (m : Nat))) .un .un .un .un) (i_range1 (e_B (a_cons (e_var rfl) a_nil) (k_lenI (enc := pT) (xs := ts) rfl)) (cRng_of (by decide) (by decide) (by omega) (by omega))) (by rw [rng_len]; omega) rfl fun p hp => by
    have hp := rng_mem.mp hp
    obtain ⟨p, rfl⟩ : ∃ k : Nat, p = (k : Int) := ⟨p.toNat, by omega⟩
    obtain ⟨q, hq⟩ : ∃ q, ts[p]? = some q := ⟨_, List.getElem?_eq_getElem (by omega)⟩
    obtain ⟨g1, g2, g3⟩ := hts q (mem_at hq)
    refine ⟨_, rfl, rfl, ?_, fun _ => e_frz (e_var rfl)⟩
    have e : ts[((p : Nat) : Int).toNat]?.getD tr0 = q := by rw [Int.toNat_natCast, hq]; rfl
    rw [e]
    exact t_tst (e_x (x_call (a_cons (e_var rfl) (a_cons (e_ixL (e_var rfl) (e_var rfl) (at_nat hq)) (a_cons (e_var rfl) a_nil))) rfl (lspeaks_t net bs hB rs hrl hR q g1 g2 g3 (m : Nat) (by omega))) rfl)
  rw [plcs_rng] at hc
  exact hc
include hn in
theorem due_e (s5 : Sl) : dOfN (nComp [5, 11] (gT2 (gN 5) (gN 11)) (iEnum (dVar 4)) (dTst (dCmp (kI fun i j => decide (i ≤ j)) (dB kLen (dAc (dVar 11) dA0)) (dVar 3))) (dFrz (dTup (dAc (dFrz (dVar 5)) (dAc (dB kLen (dAc (dVar 11) dA0)) dA0))))) (rgS net rs ts lies (.dat true (.list ((krows net bs ts).map dL))) s5 .un .un .un .un) = .val (.d true (.list ((stK net.length bs ts lies).map pI)), rgS net rs ts lies (.dat true (.list ((krows net bs ts).map dL))) .un .un .un .un .un) := by
  apply e_ofN
  have hit := i_enumL (e_var (Γ := rgS net rs ts lies (.dat true (.list ((krows net bs ts).map dL))) s5 .un .un .un .un) (m := 4) rfl)
  rw [enumD_map] at hit
  have h := n_comp (enc := fun z : List Int × Nat => .tuple [.int (z.2 : Nat), dL z.1]) (krows net bs ts).zipIdx (fun z => decide (((z.1.length : Nat) : Int) ≤ lies)) (fun z => pI ((z.2 : Nat), (z.1.length : Nat))) (vs := [5, 11]) (g := gT2 (gN 5) (gN 11)) (t := dTst (dCmp (kI fun i j => decide (i ≤ j)) (dB kLen (dAc (dVar 11) dA0)) (dVar 3))) (e := dFrz (dTup (dAc (dFrz (dVar 5)) (dAc (dB kLen (dAc (dVar 11) dA0)) dA0)))) (Γ0 := rgS net rs ts lies (.dat true (.list ((krows net bs ts).map dL))) .un .un .un .un .un) hit (by rw [List.length_zipIdx, List.length_map, rng_len]; omega) rfl fun z hz =>
    ⟨_, rfl, rfl, t_tst (e_cmp (e_B (a_cons (e_var rfl) a_nil) (k_lenI rfl)) (e_var rfl) k_I), fun _ => e_frz (e_tup (a_cons (e_frzT (e_var rfl) rfl) (a_cons (e_B (a_cons (e_var rfl) a_nil) (k_lenI rfl)) a_nil)) rfl rfl)⟩
  refine h.trans ?_
  congr 2
  unfold krows stK
  rw [zip_rng, List.filter_map, List.map_map, List.map_map]
  have e : ∀ m : Int, ((fun z : List Int × Nat => decide (((z.1.length : Nat) : Int) ≤ lies)) ∘ fun m => (plcs bs ts m, m.toNat)) m = decide (cnt bs ts m ≤ lies) := fun m => by
    show decide ((((plcs bs ts m).length : Nat) : Int) ≤ lies) = _
    rw [plcs_len]
  rw [List.filter_congr fun m _ => e m]
  apply List.map_congr_left
  intro m hm
  have hm := rng_mem.mp (List.mem_filter.mp hm).1
  show pI (((m.toNat : Nat) : Int), (((plcs bs ts m).length : Nat) : Int)) = pI (m, cnt bs ts m)
  rw [plcs_len]
  have : ((m.toNat : Nat) : Int) = m := by omega
  rw [this]
include hB eb h1 hn hrl hR hts hl l0 in
theorem right_q : u_qright [.d (dTT net), .d (.list (rs.map dOne)), .d (.list (ts.map pT)), .d (.int lies)] = .val (.d (.bool true), [.un, .un, .un, .un]) := by
  have hbl := hB.1
  have hshp := shp_ts false ts net.length hts
  have hkl : (krows net bs ts).length = net.length := by rw [List.length_map, rng_len]; omega
  have hkr : ∀ r ∈ krows net bs ts, r.length ≤ 200 := fun r hr => by
    obtain ⟨m, _, rfl⟩ := List.mem_map.mp hr
    exact Nat.le_trans (plcs_le bs ts m) hl
  refine ok_eq (ok_run rfl ?_)
  unfold b_qright
  apply w_setX
  · exact x_c (c_l (n_lst a_nil rfl rfl))
  refine w_forR (N := (net.length : Nat)) (S := Nat × Sl) (fun i s => s.1 = i ∧ s.2.fix = true) (fun s => rgS net rs ts lies (.own (.lst ((rng 0 (s.1 : Nat)).map fun m => dL (plcs bs ts m)))) s.2 .un .un .un .un) (0, .un) (i_range1 (e_B (a_cons (e_var rfl) a_nil) (k_lenJ rfl)) (cRng_of (by decide) (by decide) (by omega) (by omega))) rfl ⟨rfl, rfl⟩ ?_ ?_
  · rintro i ⟨j, s5⟩ hi ⟨hj, _⟩
    have hj : j = i := hj
    subst hj
    refine ⟨_, rfl, ?_⟩
    apply w_expr
    · apply e_ap
      · rfl
      · exact row_e net bs hB rs hrl hR ts hts hl lies j _
      · rfl
      · exact ltS_map (by rw [rng_len]; omega)
    refine w_nil ⟨(j + 1, .dat true (.int (j : Nat))), ?_, rfl, rfl⟩
    dsimp only
    rw [rng_snoc, List.map_append]
    rfl
  rintro ⟨j, s5⟩ ⟨hj, hs5⟩
  have hj : j = net.length := by simpa using hj
  subst hj
  refine w_frz (d := .list ((krows net bs ts).map dL)) rfl ?_ ?_
  · show some (PyData.list _) = _
    rw [List.map_map]; rfl
  obtain ⟨m, hm1, hm2⟩ := min_cnt net bs ts lies h1
  have hlens := n_map (enc := dL) (krows net bs ts) (fun r => .int (r.length : Nat)) (vs := [11]) (g := gN 11) (it := iSeq (dVar 4)) (e := dFrz (dB kLen (dAc (dVar 11) dA0))) (Γ := rgS net rs ts lies (.dat true (.list ((krows net bs ts).map dL))) s5 .un .un .un .un) (i_seqL (e_var rfl)) (by omega) rfl fun r hr => ⟨_, rfl, rfl, e_frz (e_B (a_cons (e_var rfl) a_nil) (k_lenI (enc := PyData.int) (xs := r) rfl))⟩
  have hri : rdInts (rgS net rs ts lies (.dat true (.list ((krows net bs ts).map dL))) s5 .un .un .un .un) (.d true (.list ((krows net bs ts).map fun r => .int (r.length : Nat)))) = some ((krows net bs ts).map fun r => ((r.length : Nat) : Int)) := by
    show intsOf ((krows net bs ts).map fun r => .int (r.length : Nat)) = _
    rw [show ((krows net bs ts).map fun r => PyData.int (r.length : Nat)) = ((krows net bs ts).map fun r => ((r.length : Nat) : Int)).map PyData.int by simp only [List.map_map]; rfl]
    exact intsOf_map _
  have htest := t_tst (e_cmp (e_B (a_cons (e_ofN hlens) a_nil) (k_min15 hri hm1)) (e_var (Γ := rgS net rs ts lies (.dat true (.list ((krows net bs ts).map dL))) s5 .un .un .un .un) (m := 3) rfl) (k_I (r := fun i j => decide (i ≤ j))))
  by_cases hne : stK net.length bs ts lies = []
  · apply w_ifN
    · exact htest
    · rw [hm2]; exact decide_eq_false (fun h => h hne)
    and_intros
    apply w_frzN rfl
    have hdue := n_map (enc := dL) (krows net bs ts) (fun r => dL (r.take (lies + 1).toNat)) (vs := [11]) (g := gN 11) (it := iSeq (dVar 4)) (e := dFrz (eX (xCut (dVar 11) oNone (oSome (dAdd (dVar 3) (dC (.int 1))))))) (Γ := rgS net rs ts lies (.dat true (.list ((krows net bs ts).map dL))) s5 .un .un .un .un) (i_seqL (e_var rfl)) (by omega) rfl fun r hr => ⟨_, rfl, rfl, by
      refine e_frz ((e_x (x_cut0 (e_var rfl) (o_some (e_add (e_var rfl) e_C)) rfl (by omega)) rfl).trans ?_)
      rw [← List.map_take]⟩
    apply w_set
    · exact e_ofN hdue
    have eR : (krows net bs ts).map (fun r => dL (r.take (lies + 1).toNat)) = (rowsX net bs ts lies).map dL := by
      unfold rowsX; simp only [List.map_map]; rfl
    rw [eR]
    have hx := fun lo hlo => told_x net bs eb hbl hn ts hts (by omega) lies lo hlo l0 hne
    have hRl : (rowsX net bs ts lies).length = net.length := by rw [List.length_map]; exact hkl
    have hRr : ∀ r ∈ rowsX net bs ts lies, r.length ≤ 200 := fun r hr => by
      obtain ⟨r', hr', rfl⟩ := List.mem_map.mp hr
      have := hkr r' hr'
      rw [List.length_take]; omega
    obtain ⟨r0, rest, hcons⟩ : ∃ r0 rest, rowsX net bs ts lies = r0 :: rest := by
      cases h : rowsX net bs ts lies with
      | nil => rw [h] at hRl; simp at hRl; omega
      | cons a b => exact ⟨a, b, rfl⟩
    generalize hRR : rowsX net bs ts lies = RR at hx hRl hRr hcons
    refine w_forR (N := 2) (S := Unit) (fun _ _ => True) (fun _ => rgS net rs ts lies (.dat true (.list ((krows net bs ts).map dL))) s5 (.dat true (.list (RR.map dL))) .un .un .un) () (i_range1 e_C (cRng_of (by decide) (by decide) (by decide) (by decide))) rfl trivial ?_ ?_
    · rintro i ⟨⟩ hi _
      refine ⟨_, rfl, ?_⟩
      apply w_set
      · exact e_ofN (n_B (a_cons (e_var rfl) a_nil) (k_list rfl (by rw [flatA_pT]; rfl)))
      apply w_setX
      · exact x_call (a_cons (e_var rfl) (a_cons (e_var rfl) (a_cons (e_var rfl) (a_cons (e_and (z2 := decide (((i : Nat) : Int) = 1)) (e_cmp (e_var rfl) e_C k_eqI) fun _ => e_cmp (e_var rfl) e_C k_eqI) a_nil)))) rfl (hx _ fun h => by
          rw [Bool.and_eq_true] at h
          exact of_decide_eq_true h.1)
      have hT := trD_tld (rwI RR)
      rw [rwI_l] at hT
      apply w_ifN
      · exact t_lk rfl hT (by show (s5.fix && true) = true; rw [show s5.fix = true from hs5]; rfl) (t_or (t_not (t_tst (e_isi (e_var rfl) rfl rfl))) fun _ => t_or (t_tst (e_cmp (z := false) (kk := kNisB) (e_ixL (e_var rfl) e_C rfl) (e_C (d := .bool true)) rfl)) fun _ => t_tst (e_cmp (e_var rfl) (e_var rfl) (k_neRef rfl rfl hshp.1 hshp.2)))
      · rfl
      and_intros
      apply w_ifN
      · exact t_lk rfl hT (by show (s5.fix && true) = true; rw [show s5.fix = true from hs5]; rfl) (t_or (t_not (t_tst (e_x (x_call (a_cons (e_ixL (e_var rfl) e_C rfl) a_nil) rfl (isRows_q RR (by omega) fun r hr => by have := hRr r hr; omega)) rfl))) fun _ => t_tst (e_cmp (e_ixL (e_var rfl) e_C rfl) (e_var rfl) (k_neT (eqt_list (eqt_list eqt_int)) (by decide) (x := RR) (y := RR) rfl rfl)))
      · simp
      and_intros
      subst hcons
      apply w_expr
      · exact e_app7 rfl (by rw [List.length_map]; have := hRr r0 (by simp); omega)
      have hT2 : trD (tldT ((r0.map PyData.int ++ [.int 7]) :: rwI rest)) = some (.list [.bool true, .list (((r0 ++ [7]) :: rest).map dL)]) := by
        have := trD_tld (rwI ((r0 ++ [7]) :: rest))
        rw [rwI_l] at this
        rw [← this]
        unfold rwI
        rw [List.map_cons, List.map_append]; rfl
      apply w_ifN
      · exact t_lk rfl hT2 (by show (s5.fix && true) = true; rw [show s5.fix = true from hs5]; rfl) (t_tst (e_cmp (e_x (x_cutE (e_ixL (e_var rfl) e_C rfl) (o_some e_C) rfl) rfl) (e_x (x_cutE (e_var rfl) (o_some e_C) rfl) rfl) (k_neT (eqt_list (eqt_list eqt_int)) (by decide) (x := rest) (y := rest) rfl rfl)))
      · simp
      and_intros
      apply w_pop15 rfl (by simp)
      exact w_nil ⟨(), rfl, trivial⟩
    · rintro ⟨⟩ _
      apply w_retX
      · exact x_call (a_cons (e_var rfl) (a_cons (e_var rfl) (a_cons (e_var rfl) a_nil))) rfl (noTrial_q net ts hts hl lies)
      exact ⟨_, _, rfl, rfl, rfl⟩
  · apply w_ifY
    · exact htest
    · rw [hm2]; exact decide_eq_true hne
    and_intros
    apply w_frzS rfl
    and_intros
    apply w_set
    · exact e_B (a_cons (due_e net bs hn rs ts lies s5) a_nil) (k_tup rfl)
    and_intros
    apply w_ret
    · exact e_cmp (e_x (x_call (a_cons (e_var rfl) (a_cons (e_var rfl) (a_cons (e_var rfl) (a_cons e_C a_nil)))) rfl (told_v net bs eb hbl hn ts hts (by omega) lies false (fun h => by cases h) hne)) rfl) (e_var rfl) (k_eqT (eqt_tup eqt_pI) (by decide) (x := stK net.length bs ts lies) (y := stK net.length bs ts lies) rfl rfl)
    rw [decide_eq_true rfl]
    exact ⟨_, _, rfl, rfl, rfl⟩
end
end PDW
set_option linter.all false
set_option maxRecDepth 100000
set_option maxHeartbeats 0
set_option autoImplicit false
namespace PDW
open PySem L2 PD
theorem e_callW15 {j : Nat} {m : List Ar → R (Rs × List Sl)} {cs ks : List Bool} {k : DA} {Γ Γ1 Γ2 : List Sl} {as : List AV} {ars : List Ar} {Z : List Sl} {x : PyData} {i : Nat} (h1 : k Γ = .val (as, Γ1))
    (h2 : (decide (((prsC cs as).map (·.2)).Nodup) && (prsC cs as).all fun y => ((cellAt Γ1 y.2).map (·.1)) == some (flagC Γ1 (prsC cs as))) = true) (h3 : rdCsM Γ1 ((prsC cs as).map (·.2)) ks cs as = some ars) (h4 : m (ars ++ ([] : List PyData).map Ar.d) = .val (.d x, Z)) (h5 : setZs (flagC Γ1 (prsC cs as)) Z (prsC cs as) Γ1 = some Γ2) (h6 : as[j]? = some (.s i)) : dCallW j m cs ks k Γ = .val (.s i, Γ2) := by
  unfold dCallW
  rw [h1, bind_val]
  dsimp only
  rw [h2]
  show ((R.ofO _).bind _) = _
  rw [h3, ofO_some, bind_val, h4]
  show (((R.ofO _).bind _).bind _) = _
  rw [h5, ofO_some, bind_val, bind_val, h6]
theorem law_true (ns : List Int) (hns : ns.length ≤ 63) : u_p_law [.d (.list (ns.map PyData.int))] = .val (.d (.bool true), [.un]) := by
  refine ok_eq (ok_run rfl ?_)
  unfold b_p_law
  refine w_forR (N := max2 1 (min2 (ns.length : Nat) 4)) (S := Unit) (fun i s => True) (fun s => [.dat false (dL ns), .un, .un, .un, .un, .un, .un, .un]) () (i_range1 (fr := true) (e_B (a_cons e_C (a_cons (e_B (a_cons (e_B (a_cons (e_var rfl) a_nil) (k_lenI rfl)) (a_cons e_C a_nil)) k_mn2) a_nil)) k_mx2) (cRng_of (by decide) (by decide) (by unfold max2 min2; split <;> split <;> omega) (by unfold max2 min2; split <;> split <;> omega))) rfl trivial ?_ ?_
  · rintro i ⟨⟩ hi _
    refine ⟨_, rfl, ?_⟩
    obtain ⟨d0, hd0⟩ := feed_t ns i
    apply w_setX
    · apply x_call
      · array_mem_dec
      · rfl
      · exact hd0
    clear hd0
    obtain ⟨net, d2, hnet, hN, n1, n2⟩ := netExp_t ns i d0 [.un, .un, .un, .un, .un]
    apply w_set
    · exact hnet
    clear hnet
    obtain ⟨rs, hrs, hrl, hR⟩ := from_t net hN (by omega)
    obtain ⟨bs, hB, eb⟩ := bits_q net hN (by omega)
    apply w_set
    · exact e_x (x_call (a_cons (e_var rfl) a_nil) rfl hrs) rfl
    clear hrs
    obtain ⟨lb, d3, h3, l0, l1⟩ := take_t d2 4 (by omega) (by omega)
    apply w_set
    · exact e_x (x_callE (a_cons (e_varO rfl) (a_cons e_C a_nil)) rfl rfl rfl rfl h3 rfl rfl) rfl
    clear h3
    obtain ⟨first, ts, d4, h4, hf, hts, htl, hc⟩ := trials15_t d3 net n1 (by omega) bs hB rs hrl hR lb l0
    apply w_unT2 (ds := ts.map pT) (a := .int first)
    · exact x_callE (a_cons (e_varO rfl) (a_cons (e_var rfl) (a_cons (e_var rfl) (a_cons (e_var rfl) a_nil)))) rfl rfl rfl rfl h4 rfl rfl
    · decide
    clear h4
    obtain ⟨d5, us, hp, hus, hul⟩ := putIn_q d4 net n1 (by omega) ts hts (by omega) lb l0 l1
    apply w_ifN
    · exact t_not (t_tst (e_x (x_call (a_cons (e_var rfl) (a_cons (e_var rfl) (a_cons (e_callW15 (Γ2 := [.dat false (dL ns), .dat true (.int (i : Nat)), .own (dk d5), .dat true (dTT net), .dat true (.list (rs.map dOne)), .dat true (.int lb), .dat true (.int first), .own (.lst (us.map pT))]) (a_cons (e_varO rfl) (a_cons (e_var rfl) (a_cons (e_varO rfl) (a_cons (e_var rfl) a_nil)))) rfl rfl hp rfl rfl) (a_cons (e_var rfl) a_nil)))) rfl (right_q net bs hB eb n1 (by omega) rs hrl hR us hus hul lb l0)) rfl))
    · rfl
    and_intros
    exact w_nil ⟨(), rfl, trivial⟩
  · rintro ⟨⟩ _
    nofun
    exact ⟨_, _, rfl, rfl, rfl⟩
end PDW
end
end
end
end
set_option Elab.async false
set_option linter.all false
set_option maxRecDepth 100000
set_option maxHeartbeats 0
namespace PDW
open PySem PySem.Spec PyProof.Rows L2 PD
theorem envD {K : PySem.W.Frag} {hp : Heap} {mg : Str → Option Value} (X : K.In hp) (G : hp.Ns mainGlobals mg) (c : PD.SaysX fxD faD fnD K) : Env K mg where
  d_p_law := ⟨_, _, (c.d.def_ 0 (d := dd0) rfl).choose_spec, He.glo_ok X G (c.d.fact 0 (f := .glo "law") rfl)⟩
  d_qfeed := ⟨_, _, (c.d.def_ 1 (d := dd1) rfl).choose_spec, He.glo_ok X G (c.d.fact 1 (f := .glo "_law_feed") rfl)⟩
  d_qcell_at := ⟨_, _, (c.d.def_ 2 (d := dd2) rfl).choose_spec, He.glo_ok X G (c.d.fact 2 (f := .glo "_law_cell_at") rfl)⟩
  d_qnet := ⟨_, _, (c.d.def_ 3 (d := dd3) rfl).choose_spec, He.glo_ok X G (c.d.fact 3 (f := .glo "_law_net") rfl)⟩
  d_qtake := ⟨_, _, (c.d.def_ 4 (d := dd4) rfl).choose_spec, He.glo_ok X G (c.d.fact 4 (f := .glo "_law_take") rfl)⟩
  d_qfrom := ⟨_, _, (c.d.def_ 5 (d := dd5) rfl).choose_spec, He.glo_ok X G (c.d.fact 5 (f := .glo "_law_from") rfl)⟩
  d_qtrials := ⟨_, _, (c.d.def_ 6 (d := dd6) rfl).choose_spec, He.glo_ok X G (c.d.fact 6 (f := .glo "_law_trials") rfl)⟩
  d_qright := ⟨_, _, (c.d.def_ 7 (d := dd7) rfl).choose_spec, He.glo_ok X G (c.d.fact 7 (f := .glo "_law_right") rfl)⟩
  d_qspeaks := ⟨_, _, (c.d.def_ 8 (d := dd8) rfl).choose_spec, He.glo_ok X G (c.d.fact 8 (f := .glo "_law_speaks") rfl)⟩
  d_qtold := ⟨_, _, (c.d.def_ 9 (d := dd9) rfl).choose_spec, He.glo_ok X G (c.d.fact 9 (f := .glo "_law_told") rfl)⟩
  d_p_known := ⟨_, _, (c.d.def_ 10 (d := dd10) rfl).choose_spec, He.glo_ok X G (c.d.fact 10 (f := .glo "known") rfl)⟩
  d_p_check_trials := ⟨_, _, (c.d.def_ 11 (d := dd11) rfl).choose_spec, He.glo_ok X G (c.d.fact 11 (f := .glo "check_trials") rfl)⟩
  d_p_bits_of := ⟨_, _, (c.d.def_ 12 (d := dd12) rfl).choose_spec, He.glo_ok X G (c.d.fact 12 (f := .glo "bits_of") rfl)⟩
  d_p_places_against := ⟨_, _, (c.d.def_ 13 (d := dd13) rfl).choose_spec, He.glo_ok X G (c.d.fact 13 (f := .glo "places_against") rfl)⟩
  d_p_speaks := ⟨_, _, (c.d.def_ 14 (d := dd14) rfl).choose_spec, He.glo_ok X G (c.d.fact 14 (f := .glo "speaks") rfl)⟩
  d_p_is_in := ⟨_, _, (c.d.def_ 15 (d := dd15) rfl).choose_spec, He.glo_ok X G (c.d.fact 15 (f := .glo "is_in") rfl)⟩
  d_qis_alone := ⟨_, _, (c.d.def_ 16 (d := dd16) rfl).choose_spec, He.glo_ok X G (c.d.fact 16 (f := .glo "_law_is_alone") rfl)⟩
  d_qis_rows := ⟨_, _, (c.d.def_ 17 (d := dd17) rfl).choose_spec, He.glo_ok X G (c.d.fact 17 (f := .glo "_law_is_rows") rfl)⟩
  d_qwhole := ⟨_, _, (c.d.def_ 18 (d := dd18) rfl).choose_spec, He.glo_ok X G (c.d.fact 18 (f := .glo "_law_whole") rfl)⟩
  d_qno_trial := ⟨_, _, (c.d.def_ 19 (d := dd19) rfl).choose_spec, He.glo_ok X G (c.d.fact 19 (f := .glo "_law_no_trial") rfl)⟩
  d_qput_in := ⟨_, _, (c.d.def_ 20 (d := dd20) rfl).choose_spec, He.glo_ok X G (c.d.fact 20 (f := .glo "_law_put_in") rfl)⟩
  b_range := He.free_ok X G (c.d.fact 21 (f := .free "range") rfl)
  b_max := He.free_ok X G (c.d.fact 22 (f := .free "max") rfl)
  b_min := He.free_ok X G (c.d.fact 23 (f := .free "min") rfl)
  b_len := He.free_ok X G (c.d.fact 24 (f := .free "len") rfl)
  b_tuple := He.free_ok X G (c.d.fact 25 (f := .free "tuple") rfl)
  b_int := He.free_ok X G (c.d.fact 26 (f := .free "int") rfl)
  b_enumerate := He.free_ok X G (c.d.fact 27 (f := .free "enumerate") rfl)
  b_isinstance := He.free_ok X G (c.d.fact 28 (f := .free "isinstance") rfl)
  b_ValueError := He.free_ok X G (c.d.fact 29 (f := .free "ValueError") rfl)
  b_list := He.free_ok X G (c.d.fact 30 (f := .free "list") rfl)
  b_bool := He.free_ok X G (c.d.fact 31 (f := .free "bool") rfl)
  t_ANSWERS := ⟨(He.glo_ok X G (c.d.fact 45 (f := .glo "ANSWERS") rfl)), fun H => He.tupB_ok (vs := [.str "good", .str "bad", .str "cannot"]) (c.x 0) H, fun _ _ => (.cons (.str _) (.cons (.str _) (.cons (.str _) .nil)))⟩
  x_all := PD.xall_ok (c.x 1) (PD.all_cons (He.glo_ok X G (c.d.fact 32 (f := .glo "NoTrial") rfl)) (PD.all_cons (He.glo_ok X G (c.d.fact 33 (f := .glo "NoTruth") rfl)) PD.all_nil)) (PD.all_cons (fun _ => (He.glo_ok X G (c.d.fact 34 (f := .glo "HuntError") rfl))) (PD.all_cons (fun _ => (He.glo_ok X G (c.d.fact 35 (f := .glo "NoBook") rfl))) (PD.all_cons (fun _ => (He.glo_ok X G (c.d.fact 36 (f := .glo "NoMake") rfl))) (PD.all_cons (fun _ => (He.glo_ok X G (c.d.fact 37 (f := .glo "NoName") rfl))) (PD.all_cons (fun _ => (He.glo_ok X G (c.d.fact 38 (f := .glo "NoNet") rfl))) (PD.all_cons (fun _ => (He.glo_ok X G (c.d.fact 39 (f := .glo "NoOrder") rfl))) (PD.all_cons (fun _ => (He.glo_ok X G (c.d.fact 40 (f := .glo "NoPlan") rfl))) (PD.all_cons (fun _ => (He.glo_ok X G (c.d.fact 41 (f := .glo "NoRow") rfl))) (PD.all_cons (fun _ => (He.glo_ok X G (c.d.fact 42 (f := .glo "NoText") rfl))) (PD.all_cons (fun _ => (He.glo_ok X G (c.d.fact 32 (f := .glo "NoTrial") rfl))) (PD.all_cons (fun _ => (He.glo_ok X G (c.d.fact 33 (f := .glo "NoTruth") rfl))) (PD.all_cons (fun _ => (He.glo_ok X G (c.d.fact 43 (f := .glo "NothingTold") rfl))) (PD.all_cons (fun _ => (He.glo_ok X G (c.d.fact 44 (f := .glo "TooGreat") rfl))) (PD.all_cons (fun z => absurd rfl z) PD.all_nil)))))))))))))) (PD.all_cons (He.glo_ok X G (c.d.fact 34 (f := .glo "HuntError") rfl)) PD.all_nil)
  hunt := ⟨PD.huntB_ok (c.x 2), (He.glo_ok X G (c.d.fact 34 (f := .glo "HuntError") rfl))⟩
  i_NoTrial := c.d.def_ 21 (d := dd21) rfl
  j_NoTrial := PD.iniB_ok (c.x 3)
  i_NoTruth := c.d.def_ 22 (d := dd22) rfl
  j_NoTruth := PD.iniB_ok (c.x 4)
theorem lawD {P : Program} {w : World} {K : PySem.W.Frag} {hp : Heap} {mg : Str → Option Value} {f : Addr} (X : K.In hp) (G : hp.Ns mainGlobals mg) (hf : mg ("law" : Str) = some (.ref f)) (c : PD.SaysX fxD faD fnD K) :
    ∃ fd : FuncData, (∀ (z : Shared) (v : Value), BindsTo z fd ⟨[v], []⟩ [("_law_script", v)]) ∧ ∀ base : Heap, FnOk P w K mg base (L2N.CX P w) 7 f fd ["_law_script"] (spU K mg u_p_law) := by
  obtain ⟨fd, F⟩ := c.d.def_ 0 (d := dd0) rfl
  have e := hf.symm.trans (He.glo_ok X G (c.d.fact 0 (f := .glo "law") rfl))
  cases e
  have b := FunD.bindsA (ps := ["_law_script"]) F fun _ _ _ _ _ _ us hl => match us, hl with | [_], _ => rfl
  exact ⟨fd, fun z v => b z [v] rfl, fun base => fo_p_law (envD X G c) F⟩
theorem spD {K : PySem.W.Frag} {mg : Str → Option Value} {H : Hp} {a : Addr} {ns : List Int} (hl : ns.length ≤ 63) (hS : SqL K H a (ns.map V.int)) : spU K mg u_p_law [.ref a] H (fun v _ => v = .bl true) fun _ _ _ => False := spU_law (law_true ns hl) hS
theorem walkD {l : PySem.W.OpenLaw} {n k : Nat} {q : Program} {loose : List Str} {XP : (Str → Option Value) → Heap → Prop} {YP : World → Heap → Prop} {d : DefRec} {x : Str} (hn : l.most = some n) (hn2 : n ≤ sizeLine) (hdf : d.params.defaults = []) (hr : Room k callerA)
    (F : ∀ (w : World) (mg : Str → Option Value) (fa : Addr) (h : Heap), YP w h → h.Ns mainGlobals mg → mg d.name = some (.ref fa) →
      ∃ (K : PySem.W.Frag) (fd : FuncData) (sp : Sp), K.In h ∧ (∀ (z : Shared) (u : Value), BindsTo z fd ⟨[u], []⟩ [(x, u)]) ∧
        (∀ (H : Hp) (a : Addr) (ns : List Int), ns.length ≤ n → Only H → SqL K H a (ns.map V.int) → sp [.ref a] H (fun v _ => v = .bl true) fun _ _ _ => False) ∧
        ∀ base : Heap, K.In base → base.Ns mainGlobals mg → FnOk l.prog w K mg base (L2N.CX l.prog w) k fa fd [x] sp) :
    PySem.W.WalkO q loose XP YP l.row.toRowW d [] (fun f vs => PySem.call f vs) := by
  refine Att.attach_call hn hdf fun w s0 s1 mg mb fa o pm cd doc a vs ns G Y ho hd hcd hmg hobj hints hlen hg => ?_
  obtain ⟨K, fd, sp, KX, hb, hsp, hF⟩ := F w mg fa _ Y G.T.g hmg
  exact law_call KX G.T.g G.T.b G.T.builtins G.T.nolimit hg hobj hints (Nat.le_trans hlen hn2) hr hF hb (fun H hO hS => hsp H a ns hlen hO hS) fun H e s' ⟨_, _, _, _, _, _, _, _, _, _, _, _, z⟩ => z
end PDW
open PySem PySem.W PySem.Calls PyProof.Rows
theorem PySem.Challenge.cw_badbegins_k15_no_truth_holds : PySem.Challenge.rw_badbegins_k15_no_truth.Holds := by
  w_on; o_law
  refine HandSHeadRun.head_any (r := OpenLaw.row PySem.Challenge.rw_badbegins_k15_no_truth) (q := view (OpenLaw.row PySem.Challenge.rw_badbegins_k15_no_truth).prog [39]) (H := PDW.hkD) (ob := PDW.obD) (M := 4000) (loose := PDW.looseD) (d := HandSHeadRun.topDef (OpenLaw.row PySem.Challenge.rw_badbegins_k15_no_truth).prog 39) (kwd := []) PDW.obD_eq
    (by kernel_rfl) (fun z => by kernel_rfl) PDW.runD (by kernel_rfl) (by kernel_rfl) (by kernel_rfl) (by rfl) (by first | assumption | decide +kernel) (by decide +kernel) ⟨rfl, rfl, rfl, rfl, rfl, by decide +kernel⟩ ?hw ?hc
  case hw => w_witness2
  case hc =>
    refine PDW.walkD (l := PySem.Challenge.rw_badbegins_k15_no_truth) (n := 63) (k := 7) (x := "_law_script") rfl (by decide) (by kernel_rfl) ⟨rfl, by decide, by decide⟩ ?F
    intro w mg fa hp Y G hmg0
    obtain ⟨K, KX, c⟩ := Y
    have hmg : mg ("law" : PySem.Str) = some (.ref fa) := by
      have e : (HandSHeadRun.topDef (OpenLaw.row PySem.Challenge.rw_badbegins_k15_no_truth).prog 39).name = ("law" : PySem.Str) := by kernel_rfl
      rw [← e]
      exact hmg0
    obtain ⟨fd, hb, hF⟩ := PDW.lawD (P := PySem.Challenge.rw_badbegins_k15_no_truth.prog) (w := w) KX G hmg c
    exact ⟨K, fd, _, KX, hb, fun H a ns hl _ hS => PDW.spD hl hS, fun base _ _ => hF base⟩
