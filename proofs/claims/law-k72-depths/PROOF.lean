import PyProof.Rows.All
import Wide.All
import OpenK.AllK
import Wide.FinOn
import HandS.Dict
import KE.KeyNested
import HandS.ForMost
import HandS.ForExc
import HandS.CallSlots
import HandS.Defaults
import HandS.HeadHook2
import HandS.IsInst
import HandS.SortInts
import HandS.Wide
import HandS.WideBits
import HandS.More
import HandS.TupAny
import HandS.Deep
import HandS.Zip
import HandS.Iter
import HandS.Lambda
import KE.GoesEnum
import HandS.SetFor
import HandS.Strs
import HandS.Comp
import HandS.Style
import HandS.Text
import HandS.TupSets
import HandS.Conv
import HandS.Zip0
import HandS.TupLe
import HandS.ExcInit
import HandS.ExcOwn
import HandS.ExcValue
import HandS.ExcField
import KE.KExcIs
import KE.KIsAll
import HandS.HotCalls
import KE.SortData
import KE.KDictSum
import HandS.TupMul
import KE.DataCmp
import KE.DataMinMax
import KE.KDictDisplayH
import KE.KDictCopyH
import HandS.Rev
import HandS.SortKw
import KE.SortKeyHeap
import KE.KDictWalk
import HandS.Codes
import KE.KMinKey
import KE.DataMinKey
import KE.OsArith
import HandS.Base
import HandS.Call
import HandS.Ends
import HandS.Words
import HandS.WordsExc
import HandS.Head0
import HandS.Head1
import HandS.Head2
import HandS.HeadEnd
import HandS.HeadHook1
import KE.KStateDown
import Lean
import PySem.Challenge.RW_badbegins_k72_depths
set_option Elab.async false
set_option linter.all false
set_option maxRecDepth 100000
set_option maxHeartbeats 4000000
set_option autoImplicit false
namespace PD
open PySem PySem.Spec L2
open PyProof.Rows hiding St
mutual
def nkD : PyData → Option NestedKey
  | .none => some .none
  | .bool b => some (.num (if b then 1 else 0))
  | .int i => some (.num i)
  | .tuple xs => (nkDs xs).map .tup
  | _ => none
def nkDs : List PyData → Option (List NestedKey)
  | [] => some []
  | x :: xs => match nkD x with
    | some k => (nkDs xs).map (k :: ·)
    | none => none
end
mutual
def noT : NestedKey → Bool
  | .text _ => false
  | .tup ks => noTs ks
  | _ => true
def noTs : List NestedKey → Bool
  | [] => true
  | k :: ks => noT k && noTs ks
end
def NdP (a : Addr) (rs : List (NestedKey × Addr × V)) : Heap → Prop := fun h => rs.length ≤ sizeLine ∧ (a == sysModules) = false ∧ (∀ r ∈ rs, noT r.1 = true) ∧
  ∃ (w' : World) (xs : List (NestedKey × Addr × Value)) (o : Obj) (es : Array DictEntry) (ep : Nat), Paired (fun (p : NestedKey × Addr × V) (q : NestedKey × Addr × Value) => p.1 = q.1 ∧ p.2.1 = q.2.1 ∧ RelV p.2.2 q.2.2) rs xs ∧
    h.get? a = some o ∧ o.ExactDict ∧ o.data = .dict es ep ∧ es.toList = xs.map (fun x => (⟨x.1.hash w', .ref x.2.1, x.2.2⟩ : DictEntry)) ∧ (xs.map (·.1)).Nodup
def NdO (a : Addr) (rs : List (NestedKey × Addr × V)) : HO := .ext (NdP a rs)
def ndGet (rs : List (NestedKey × Addr × V)) (k : NestedKey) : Option V := (rs.find? fun r => decide (r.1 = k)).map (·.2.2)
def ndPut (rs : List (NestedKey × Addr × V)) (k : NestedKey) (b : Addr) (v : V) : List (NestedKey × Addr × V) := if rs.any (fun r => decide (r.1 = k)) then rs.map (fun r => if r.1 = k then (r.1, r.2.1, v) else r) else rs ++ [(k, b, v)]
section
variable {X : Cx} {pins : List (Addr × Obj)} {σ : St} {H : Hp} {s : Shared} {a b : Addr} {A : Around} {E : Value → Shared → Prop} {rs : List (NestedKey × Addr × V)} {k : NestedKey} {v : V} {r : Value}
end
end PD
set_option Elab.async false
set_option linter.all false
set_option maxRecDepth 100000
set_option maxHeartbeats 4000000
namespace PD
open PySem L2
abbrev Rg := Addr → HO → Prop
def LsR (K : PySem.W.Frag) (G : Rg) (a : Addr) (xs : List V) : Prop :=
  G a (.lst xs) ∨ (∃ o, G a (.frz o (.lst xs))) ∨ SqL K (fun _ => none) a xs
def keyD : Key → PyData
  | .inl i => .int i
  | .inr x => .str x
inductive Dk where
  | k
  | t
  | n
def encK (ks : List PyData) : List PyData := PyData.none :: ks.flatMap fun d => [d, .none]
def encV (rs : List (NestedKey × Addr × V)) : List V := V.non :: rs.flatMap fun r => [r.2.2, .ref r.2.1]
def DcO : Dk → Addr → HO → List PyData → List V → Prop
  | .k, _, o, ks, vs => ∃ kvs : List (Key × V), o = .dK kvs ∧ ks = kvs.map (fun z => keyD z.1) ∧ vs = kvs.map (·.2)
  | .t, _, o, ks, vs => ∃ kvs : List (List Key × V), o = .dT kvs ∧ ks = kvs.map (fun z => .tuple (z.1.map keyD)) ∧ vs = kvs.map (·.2)
  | .n, a, o, ks, vs => ∃ (rs : List (NestedKey × Addr × V)) (kds : List PyData), o = NdO a rs ∧ kds.map nkD = rs.map (fun r => some r.1) ∧ (∀ r ∈ rs, r.1.depth ≤ 8) ∧ ks = encK kds ∧ vs = encV rs
def XvO (K : PySem.W.Frag) (nm : Str) (d : Option Addr) (a : Addr) : HO :=
  .ext fun h => ∃ (oe : Obj) (vs : Array Value), h.get? a = some oe ∧ Zc (.ref (He.ga K nm)) d oe ∧ oe.data = .fields vs
abbrev inD (nm : Str) (flds : List (Str × PyData)) : PyData := .dict ((.bool true, .str nm) :: flds.map fun z => (PyData.str z.1, z.2))
def dkD : Dk → PyData
  | .k => .int 0
  | .t => .int 1
  | .n => .int 2
abbrev udD (t : Dk) (kvs : List (PyData × PyData)) : PyData := .dict ((.bool false, dkD t) :: kvs)
abbrev xcD (nm : Str) (flds : List (Str × PyData)) : PyData := .dict ((.none, .str nm) :: flds.map fun z => (PyData.str z.1, z.2))
mutual
inductive Dn (K : PySem.W.Frag) (G : Rg) (H : Hp) : V → PyData → Prop
  | non : Dn K G H .non .none
  | bl (b : Bool) : Dn K G H (.bl b) (.bool b)
  | int (i : Int) : Dn K G H (.int i) (.int i)
  | str (x : Str) : Dn K G H (.str x) (.str x)
  | lst {a : Addr} {xs : List V} {ds : List PyData} : LsR K G a xs → DnA K G H xs ds → Dn K G H (.ref a) (.list ds)
  | tup {a : Addr} {xs : List V} {ds : List PyData} : H a = some (.tup xs) → DnA K G H xs ds → Dn K G H (.ref a) (.tuple ds)
  | dct {a : Addr} {o : HO} {t : Dk} {vs : List V} {kvs : List (PyData × PyData)} : (∃ ob, G a (.frz ob o)) → DcO t a o (kvs.map (·.1)) vs → DnA K G H vs (kvs.map (·.2)) → Dn K G H (.ref a) (.dict kvs)
  | exc {a dd : Addr} {nm : Str} {fs : List (Str × V)} {flds : List (Str × PyData)} : G a (XvO K nm (some dd) a) → G dd (.xd fs) → fs.map (·.1) = flds.map (·.1) → DnA K G H (fs.map (·.2)) (flds.map (·.2)) → Dn K G H (.ref a) (xcD nm flds)
  | exc0 {a : Addr} {nm : Str} : G a (XvO K nm none a) → Dn K G H (.ref a) (xcD nm [])
  | ins {a dx : Addr} {nm : Str} {fs : List (Str × V)} {flds : List (Str × PyData)} : G a (.ins (He.ga K nm) dx fs) → G dx (.own a) → fs.map (·.1) = flds.map (·.1) → DnA K G H (fs.map (·.2)) (flds.map (·.2)) → Dn K G H (.ref a) (inD nm flds)
  | dcu {a : Addr} {o : HO} {t : Dk} {vs : List V} {kvs : List (PyData × PyData)} : G a o → DcO t a o (kvs.map (·.1)) vs → DnA K G H vs (kvs.map (·.2)) → Dn K G H (.ref a) (udD t kvs)
inductive DnA (K : PySem.W.Frag) (G : Rg) (H : Hp) : List V → List PyData → Prop
  | nil : DnA K G H [] []
  | cons {v : V} {vs : List V} {d : PyData} {ds : List PyData} : Dn K G H v d → DnA K G H vs ds → DnA K G H (v :: vs) (d :: ds)
end
def TupLe (H H' : Hp) : Prop := ∀ a xs, H a = some (.tup xs) → H' a = some (.tup xs)
theorem TupLe.rf (H : Hp) : TupLe H H := fun _ _ h => h
theorem TupLe.tr {H H1 H2 : Hp} (a : TupLe H H1) (b : TupLe H1 H2) : TupLe H H2 := fun c xs h => b c xs (a c xs h)
def RgLe (G G' : Rg) : Prop := ∀ a o, G a o → G' a o
theorem LsR.mono {K : PySem.W.Frag} {G G' : Rg} {a : Addr} {xs : List V} (h : LsR K G a xs) (g : RgLe G G') : LsR K G' a xs := by
  rcases h with h | ⟨o, h⟩ | h
  · exact .inl (g _ _ h)
  · exact .inr (.inl ⟨o, g _ _ h⟩)
  · exact .inr (.inr h)
mutual
theorem Dn.mono {K : PySem.W.Frag} {G G' : Rg} {H H' : Hp} (g : RgLe G G') (t : TupLe H H') : ∀ {v : V} {d : PyData}, Dn K G H v d → Dn K G' H' v d
  | _, _, .non => .non
  | _, _, .bl b => .bl b
  | _, _, .int i => .int i
  | _, _, .str x => .str x
  | _, _, .lst h a => .lst (h.mono g) (DnA.mono g t a)
  | _, _, .tup h a => .tup (t _ _ h) (DnA.mono g t a)
  | _, _, .dct h c a => .dct (h.imp fun _ z => g _ _ z) c (DnA.mono g t a)
  | _, _, .exc h1 h2 e a => .exc (g _ _ h1) (g _ _ h2) e (DnA.mono g t a)
  | _, _, .exc0 h => .exc0 (g _ _ h)
  | _, _, .ins h1 h2 e a => .ins (g _ _ h1) (g _ _ h2) e (DnA.mono g t a)
  | _, _, .dcu h c a => .dcu (g _ _ h) c (DnA.mono g t a)
theorem DnA.mono {K : PySem.W.Frag} {G G' : Rg} {H H' : Hp} (g : RgLe G G') (t : TupLe H H') : ∀ {vs : List V} {ds : List PyData}, DnA K G H vs ds → DnA K G' H' vs ds
  | _, _, .nil => .nil
  | _, _, .cons h a => .cons (Dn.mono g t h) (DnA.mono g t a)
end
def flat : PyData → Bool
  | .none => true
  | .bool _ => true
  | .int _ => true
  | .str _ => true
  | .tuple xs => flatA xs
  | _ => false
where flatA : List PyData → Bool
  | [] => true
  | d :: ds => flat d && flatA ds
mutual
theorem Dn.free {K : PySem.W.Frag} {G G' : Rg} {H : Hp} : ∀ {v : V} {d : PyData}, Dn K G H v d → flat d = true → Dn K G' H v d
  | _, _, .non, _ => .non
  | _, _, .bl b, _ => .bl b
  | _, _, .int i, _ => .int i
  | _, _, .str x, _ => .str x
  | _, _, .lst _ _, h => by simp [flat] at h
  | _, _, .tup h a, f => .tup h (DnA.free a (by simpa [flat] using f))
  | _, _, .dct _ _ _, h => by simp [flat] at h
  | _, _, .exc _ _ _ _, h => by simp [flat] at h
  | _, _, .exc0 _, h => by simp [flat] at h
  | _, _, .ins _ _ _ _, h => by simp [flat] at h
  | _, _, .dcu _ _ _, h => by simp [flat] at h
theorem DnA.free {K : PySem.W.Frag} {G G' : Rg} {H : Hp} : ∀ {vs : List V} {ds : List PyData}, DnA K G H vs ds → flat.flatA ds = true → DnA K G' H vs ds
  | _, _, .nil, _ => .nil
  | _, _, .cons h a, f => by
    simp only [flat.flatA, Bool.and_eq_true] at f
    exact .cons (Dn.free h f.1) (DnA.free a f.2)
end
theorem DnA.length {K : PySem.W.Frag} {G : Rg} {H : Hp} : ∀ {vs : List V} {ds : List PyData}, DnA K G H vs ds → vs.length = ds.length
  | _, _, .nil => rfl
  | _, _, .cons _ a => by simp [a.length]
theorem DnA.get {K : PySem.W.Frag} {G : Rg} {H : Hp} : ∀ {vs : List V} {ds : List PyData} {i : Nat} {v : V}, DnA K G H vs ds → vs[i]? = some v → ∃ d, ds[i]? = some d ∧ Dn K G H v d
  | _, _, _, _, .nil, e => by simp at e
  | _, _, 0, _, .cons h _, e => by simp at e; subst e; exact ⟨_, rfl, h⟩
  | _, _, i + 1, v, .cons _ a, e => by
    obtain ⟨d, h1, h2⟩ := DnA.get (i := i) (v := v) a (by simpa using e)
    exact ⟨d, by simpa using h1, h2⟩
theorem DnA.get' {K : PySem.W.Frag} {G : Rg} {H : Hp} : ∀ {vs : List V} {ds : List PyData} {i : Nat} {d : PyData}, DnA K G H vs ds → ds[i]? = some d → ∃ v, vs[i]? = some v ∧ Dn K G H v d
  | _, _, _, _, .nil, e => by simp at e
  | _, _, 0, _, .cons h _, e => by simp at e; subst e; exact ⟨_, rfl, h⟩
  | _, _, i + 1, v, .cons _ a, e => by
    obtain ⟨d, h1, h2⟩ := DnA.get' (i := i) (d := v) a (by simpa using e)
    exact ⟨d, by simpa using h1, h2⟩
theorem DnA.append {K : PySem.W.Frag} {G : Rg} {H : Hp} : ∀ {vs ws : List V} {ds es : List PyData}, DnA K G H vs ds → DnA K G H ws es → DnA K G H (vs ++ ws) (ds ++ es)
  | _, _, _, _, .nil, b => b
  | _, _, _, _, .cons h a, b => .cons h (DnA.append a b)
theorem DnA.drop {K : PySem.W.Frag} {G : Rg} {H : Hp} : ∀ {vs : List V} {ds : List PyData} (n : Nat), DnA K G H vs ds → DnA K G H (vs.drop n) (ds.drop n)
  | _, _, 0, a => a
  | _, _, _ + 1, .nil => .nil
  | _, _, n + 1, .cons _ a => DnA.drop n a
theorem DnA.take {K : PySem.W.Frag} {G : Rg} {H : Hp} : ∀ {vs : List V} {ds : List PyData} (n : Nat), DnA K G H vs ds → DnA K G H (vs.take n) (ds.take n)
  | _, _, 0, _ => .nil
  | _, _, _ + 1, .nil => .nil
  | _, _, n + 1, .cons h a => .cons h (DnA.take n a)
theorem DnA.set {K : PySem.W.Frag} {G : Rg} {H : Hp} {v : V} {d : PyData} (h : Dn K G H v d) : ∀ {vs : List V} {ds : List PyData} (i : Nat), DnA K G H vs ds → DnA K G H (vs.set i v) (ds.set i d)
  | _, _, _, .nil => .nil
  | _, _, 0, .cons _ a => .cons h a
  | _, _, i + 1, .cons q a => .cons q (DnA.set h i a)
theorem DnA.reverse {K : PySem.W.Frag} {G : Rg} {H : Hp} : ∀ {vs : List V} {ds : List PyData}, DnA K G H vs ds → DnA K G H vs.reverse ds.reverse
  | _, _, .nil => .nil
  | _, _, .cons h a => by
    rw [List.reverse_cons, List.reverse_cons]
    exact DnA.append (DnA.reverse a) (.cons h .nil)
theorem dn_int {K : PySem.W.Frag} {G : Rg} {H : Hp} {v : V} {i : Int} (h : Dn K G H v (.int i)) : v = .int i := by cases h; rfl
theorem dn_bool {K : PySem.W.Frag} {G : Rg} {H : Hp} {v : V} {b : Bool} (h : Dn K G H v (.bool b)) : v = .bl b := by cases h; rfl
theorem dn_str {K : PySem.W.Frag} {G : Rg} {H : Hp} {v : V} {x : Str} (h : Dn K G H v (.str x)) : v = .str x := by cases h; rfl
theorem dn_list {K : PySem.W.Frag} {G : Rg} {H : Hp} {v : V} {ds : List PyData} (h : Dn K G H v (.list ds)) : ∃ a xs, v = .ref a ∧ LsR K G a xs ∧ DnA K G H xs ds := by
  cases h with | lst h a => exact ⟨_, _, rfl, h, a⟩
theorem dn_tupleH {K : PySem.W.Frag} {G : Rg} {H : Hp} {v : V} {ds : List PyData} (h : Dn K G H v (.tuple ds)) : ∃ a xs, v = .ref a ∧ H a = some (.tup xs) ∧ DnA K G H xs ds := by
  cases h with | tup h a => exact ⟨_, _, rfl, h, a⟩
theorem dn_tuple {K : PySem.W.Frag} {G : Rg} {H : Hp} {v : V} {ds : List PyData} (h : Dn K G H v (.tuple ds)) : ∃ a xs, v = .ref a ∧ SqT K H a xs ∧ DnA K G H xs ds := by
  cases h with | tup h a => exact ⟨_, _, rfl, SqT.of h, a⟩
theorem dna_ints {K : PySem.W.Frag} {G : Rg} {H : Hp} : ∀ {ns : List Int} {vs : List V}, DnA K G H vs (ns.map PyData.int) → vs = ns.map V.int
  | [], _, .nil => rfl
  | n :: ns, _, .cons h a => by rw [dn_int h, dna_ints a]; rfl
theorem ints_dna {K : PySem.W.Frag} {G : Rg} {H : Hp} : ∀ (ns : List Int), DnA K G H (ns.map V.int) (ns.map PyData.int)
  | [] => .nil
  | n :: ns => .cons (.int n) (ints_dna ns)
abbrev RgH (H : Hp) : Rg := fun a o => H a = some o
theorem LsR.sq {K : PySem.W.Frag} {H : Hp} {a : Addr} {xs : List V} (h : LsR K (RgH H) a xs) : SqL K H a xs := by
  rcases h with h | ⟨o, h⟩ | h
  · exact .inl (.inl h)
  · exact .inl (.inr ⟨o, h⟩)
  · rcases h with (h | ⟨o, h⟩) | h
    · cases h
    · cases h
    · exact .inr h
theorem LsR.of_sq {K : PySem.W.Frag} {H : Hp} {a : Addr} {xs : List V} (h : SqL K H a xs) : LsR K (RgH H) a xs := by
  rcases h with (h | ⟨o, h⟩) | h
  · exact .inl h
  · exact .inr (.inl ⟨o, h⟩)
  · exact .inr (.inr (.inr h))
mutual
theorem Dn.dp {K : PySem.W.Frag} {H : Hp} : ∀ {v : V} {d : PyData}, Dn K (RgH H) H v d → d.canLay0 = true → Dp K H v d
  | _, _, .non, _ => .non
  | _, _, .bl b, _ => .bl b
  | _, _, .int i, _ => .int i
  | _, _, .str x, _ => .str x
  | _, _, .lst h a, c => .lst h.sq (DnA.dp a (by rw [PyData.canLay0] at c; exact c))
  | _, _, .tup h a, c => .tup (SqT.of h) (DnA.dp a (by rw [PyData.canLay0] at c; exact c))
  | _, _, .dct _ _ _, c => by rw [PyData.canLay0] at c; cases c
  | _, _, .exc _ _ _ _, c => by rw [PyData.canLay0] at c; cases c
  | _, _, .exc0 _, c => by rw [PyData.canLay0] at c; cases c
  | _, _, .ins _ _ _ _, c => by rw [PyData.canLay0] at c; cases c
  | _, _, .dcu _ _ _, c => by rw [PyData.canLay0] at c; cases c
theorem DnA.dp {K : PySem.W.Frag} {H : Hp} : ∀ {vs : List V} {ds : List PyData}, DnA K (RgH H) H vs ds → PyData.canLayAll0 ds = true → DpAll K H vs ds
  | _, _, .nil, _ => .nil
  | _, _, .cons h a, c => by
    rw [PyData.canLayAll0, Bool.and_eq_true] at c
    exact .cons (Dn.dp h c.1) (DnA.dp a c.2)
end
theorem Dn.dps {K : PySem.W.Frag} {H : Hp} {v : V} {d : PyData} (h : Dn K (RgH H) H v d) (c : SeqAt.shaped d = true) : Dp K H v d := h.dp (SeqAt.canLay_of_shaped c)
structure Gh where
  H0 : Hp
  P : List Addr
  I : Nat → Option V
  N : Hp
  E : Hp
abbrev RgN (G : Gh) : Rg := fun a o => G.N a = some o
def RgA (G : Gh) : Rg := fun a o => G.N a = some o ∨ (G.H0 a = some o ∧ a ∉ G.P)
def rg (G : Gh) : Bool → Rg
  | true => RgN G
  | false => RgA G
structure Wf (G : Gh) (H : Hp) : Prop where
  keep : ∀ a o, G.H0 a = some o → a ∉ G.P → H a = some o
  new : ∀ a o, G.N a = some o → H a = some o ∧ True
  pal : ∀ a, a ∈ G.P → H a ≠ none
  p0 : ∀ a, a ∈ G.P → G.H0 a ≠ none
  ex : ∀ a o, G.E a = some o → H a = some o ∧ G.N a = none ∧ G.H0 a = none ∧ a ∉ G.P
  iv : ∀ i p, G.I i = some (.ref p) → p ∈ G.P ∨ G.E p ≠ none ∨ ∃ xs, H p = some (.tup xs)
theorem Wf.rgl {G : Gh} {H : Hp} (w : Wf G H) (fr : Bool) : RgLe (rg G fr) (RgH H) := fun a o h => by
  cases fr with
  | true => exact (w.new a o h).1
  | false =>
    rcases h with h | ⟨h1, h2⟩
    · exact (w.new a o h).1
    · exact w.keep a o h1 h2
theorem Wf.dn {K : PySem.W.Frag} {G : Gh} {H : Hp} {fr : Bool} {v : V} {d : PyData} (w : Wf G H) (h : Dn K (rg G fr) H v d) : Dn K (RgH H) H v d := h.mono (w.rgl fr) (TupLe.rf _)
theorem rg_ff (G : Gh) (fr : Bool) : RgLe (rg G fr) (rg G false) := fun a o h => by
  cases fr with
  | true => exact .inl h
  | false => exact h
structure Ext (G : Gh) (H : Hp) (G' : Gh) (H' : Hp) : Prop where
  h0 : G'.H0 = G.H0
  p : G'.P = G.P
  i : G'.I = G.I
  e : G'.E = G.E
  n : ∀ a o, G.N a = some o → G'.N a = some o
  nn : ∀ a o, G'.N a = some o → G.N a = some o ∨ G.H0 a = none
  t : TupLe H H'
  w : Wf G' H'
theorem Ext.rf {G : Gh} {H : Hp} (w : Wf G H) : Ext G H G H := ⟨rfl, rfl, rfl, rfl, fun _ _ h => h, fun _ _ h => .inl h, TupLe.rf _, w⟩
theorem Ext.tr {G G1 G2 : Gh} {H H1 H2 : Hp} (a : Ext G H G1 H1) (b : Ext G1 H1 G2 H2) : Ext G H G2 H2 :=
  ⟨b.h0.trans a.h0, b.p.trans a.p, b.i.trans a.i, b.e.trans a.e, fun c o h => b.n c o (a.n c o h), fun c o h => (b.nn c o h).elim (a.nn c o) (fun z => .inr (by rw [← a.h0]; exact z)), a.t.tr b.t, b.w⟩
theorem Ext.rgl {G G' : Gh} {H H' : Hp} (e : Ext G H G' H') (fr : Bool) : RgLe (rg G fr) (rg G' fr) := fun a o h => by
  cases fr with
  | true => exact e.n a o h
  | false =>
    rcases h with h | ⟨h1, h2⟩
    · exact .inl (e.n a o h)
    · exact .inr ⟨by rw [e.h0]; exact h1, by rw [e.p]; exact h2⟩
theorem Ext.dn {K : PySem.W.Frag} {G G' : Gh} {H H' : Hp} {fr : Bool} {v : V} {d : PyData} (e : Ext G H G' H') (h : Dn K (rg G fr) H v d) : Dn K (rg G' fr) H' v d := h.mono (e.rgl fr) e.t
theorem Ext.dna {K : PySem.W.Frag} {G G' : Gh} {H H' : Hp} {fr : Bool} {v : List V} {d : List PyData} (e : Ext G H G' H') (h : DnA K (rg G fr) H v d) : DnA K (rg G' fr) H' v d := h.mono (e.rgl fr) e.t
structure Le (G : Gh) (H : Hp) (G' : Gh) (H' : Hp) : Prop where
  h0 : G'.H0 = G.H0
  p : G'.P = G.P
  n : ∀ a o, G.N a = some o → G'.N a = some o
  nn : ∀ a o, G'.N a = some o → G.N a = some o ∨ G.H0 a = none
  t : TupLe H H'
  w : Wf G' H'
  e : ∀ a o, G.E a = some o → G'.E a = some o
theorem Ext.le {G G' : Gh} {H H' : Hp} (e : Ext G H G' H') : Le G H G' H' := ⟨e.h0, e.p, e.n, e.nn, e.t, e.w, fun a o h => by rw [e.e]; exact h⟩
theorem Le.tr {G G1 G2 : Gh} {H H1 H2 : Hp} (a : Le G H G1 H1) (b : Le G1 H1 G2 H2) : Le G H G2 H2 := ⟨b.h0.trans a.h0, b.p.trans a.p, fun c o h => b.n c o (a.n c o h), fun c o h => (b.nn c o h).elim (a.nn c o) (fun z => .inr (by rw [← a.h0]; exact z)), a.t.tr b.t, b.w, fun c o h => b.e c o (a.e c o h)⟩
theorem Le.rgl {G G' : Gh} {H H' : Hp} (e : Le G H G' H') (fr : Bool) : RgLe (rg G fr) (rg G' fr) := fun a o h => by
  cases fr with
  | true => exact e.n a o h
  | false =>
    rcases h with h | ⟨h1, h2⟩
    · exact .inl (e.n a o h)
    · exact .inr ⟨by rw [e.h0]; exact h1, by rw [e.p]; exact h2⟩
theorem Le.dna {K : PySem.W.Frag} {G G' : Gh} {H H' : Hp} {fr : Bool} {v : List V} {d : List PyData} (e : Le G H G' H') (h : DnA K (rg G fr) H v d) : DnA K (rg G' fr) H' v d := h.mono (e.rgl fr) e.t
abbrev Fd := List Int × Int × Int
def fdK (l : Addr) (t s : Int) : List (Key × V) := [(.inr "cells", .ref l), (.inr "turn", .int t), (.inr "seed", .int s)]
inductive Tre where
  | d (x : PyData)
  | lst (ts : List Tre)
  | tup (ts : List Tre)
  | dic (t : Dk) (ks : List PyData) (ts : List Tre)
  | ins (nm : Str) (fs : List Str) (ts : List Tre)
mutual
inductive TreOk (K : PySem.W.Frag) (G : Rg) (H : Hp) : V → List Addr → Tre → Prop
  | d {v : V} {x : PyData} : Dn K G H v x → TreOk K G H v [] (.d x)
  | lst {p : Addr} {vs : List V} {fp : List Addr} {ts : List Tre} : H p = some (.lst vs) → TresOk K G H vs fp ts → p ∉ fp → TreOk K G H (.ref p) (p :: fp) (.lst ts)
  | tup {p : Addr} {vs : List V} {fp : List Addr} {ts : List Tre} : H p = some (.tup vs) → TresOk K G H vs fp ts → TreOk K G H (.ref p) fp (.tup ts)
  | dic {p : Addr} {o : HO} {t : Dk} {ks : List PyData} {vs : List V} {fp : List Addr} {ts : List Tre} : H p = some o → DcO t p o ks vs → TresOk K G H vs fp ts → p ∉ fp → TreOk K G H (.ref p) (p :: fp) (.dic t ks ts)
  | ins {p dx : Addr} {nm : Str} {fs : List (Str × V)} {fp : List Addr} {ts : List Tre} : H p = some (.ins (He.ga K nm) dx fs) → H dx = some (.own p) → p ≠ dx → TresOk K G H (fs.map (·.2)) fp ts → p ∉ fp → dx ∉ fp → TreOk K G H (.ref p) (p :: dx :: fp) (.ins nm (fs.map (·.1)) ts)
inductive TresOk (K : PySem.W.Frag) (G : Rg) (H : Hp) : List V → List Addr → List Tre → Prop
  | nil : TresOk K G H [] [] []
  | cons {v : V} {vs : List V} {f1 f2 : List Addr} {t : Tre} {ts : List Tre} : TreOk K G H v f1 t → TresOk K G H vs f2 ts → (∀ p ∈ f1, p ∉ f2) → TresOk K G H (v :: vs) (f1 ++ f2) (t :: ts)
end
mutual
theorem TreOk.mono {K : PySem.W.Frag} {G G' : Rg} {H H' : Hp} (g : RgLe G G') (t : TupLe H H') : ∀ {v : V} {fp : List Addr} {T : Tre}, TreOk K G H v fp T → (∀ a ∈ fp, H' a = H a) → TreOk K G' H' v fp T
  | _, _, _, .d h, _ => .d (h.mono g t)
  | _, _, _, .lst h a n, k => .lst (by rw [k _ (by simp)]; exact h) (TresOk.mono g t a fun q hq => k q (by simp [hq])) n
  | _, _, _, .tup h a, k => .tup (t _ _ h) (TresOk.mono g t a k)
  | _, _, _, .dic h c a n, k => .dic (by rw [k _ (by simp)]; exact h) c (TresOk.mono g t a fun q hq => k q (by simp [hq])) n
  | _, _, _, .ins h1 h2 ne a n1 n2, k => .ins (by rw [k _ (by simp)]; exact h1) (by rw [k _ (by simp)]; exact h2) ne (TresOk.mono g t a fun q hq => k q (by simp [hq])) n1 n2
theorem TresOk.mono {K : PySem.W.Frag} {G G' : Rg} {H H' : Hp} (g : RgLe G G') (t : TupLe H H') : ∀ {vs : List V} {fp : List Addr} {ts : List Tre}, TresOk K G H vs fp ts → (∀ a ∈ fp, H' a = H a) → TresOk K G' H' vs fp ts
  | _, _, _, .nil, _ => .nil
  | _, _, _, .cons h a n, k => .cons (TreOk.mono g t h fun q hq => k q (by simp [hq])) (TresOk.mono g t a fun q hq => k q (by simp [hq])) n
end
def Nt (H : Hp) (p : Addr) : Prop := ∃ o, H p = some o ∧ (∀ xs, o ≠ .tup xs) ∧ ∀ x y, o ≠ .frz x y
theorem DcO.nt {t : Dk} {a : Addr} {o : HO} {ks : List PyData} {vs : List V} (h : DcO t a o ks vs) : (∀ xs, o ≠ .tup xs) ∧ ∀ x y, o ≠ .frz x y := by
  cases t with
  | k => obtain ⟨_, rfl, _⟩ := h; exact ⟨fun _ z => (nomatch z), fun _ _ z => (nomatch z)⟩
  | t => obtain ⟨_, rfl, _⟩ := h; exact ⟨fun _ z => (nomatch z), fun _ _ z => (nomatch z)⟩
  | n => obtain ⟨_, _, rfl, _⟩ := h; exact ⟨fun _ z => (nomatch z), fun _ _ z => (nomatch z)⟩
mutual
theorem TreOk.nt {K : PySem.W.Frag} {G : Rg} {H : Hp} : ∀ {v : V} {fp : List Addr} {T : Tre}, TreOk K G H v fp T → ∀ p ∈ fp, Nt H p
  | _, _, _, .d h, p, hp => by cases hp
  | _, _, _, .lst h a n, p, hp => by
    rcases List.mem_cons.mp hp with rfl | hp
    · exact ⟨_, h, fun _ z => (nomatch z), fun _ _ z => (nomatch z)⟩
    · exact TresOk.nt a p hp
  | _, _, _, .tup h a, p, hp => TresOk.nt a p hp
  | _, _, _, .dic h c a n, p, hp => by
    rcases List.mem_cons.mp hp with rfl | hp
    · exact ⟨_, h, c.nt.1, c.nt.2⟩
    · exact TresOk.nt a p hp
  | _, _, _, .ins h1 h2 ne a n1 n2, p, hp => by
    rcases List.mem_cons.mp hp with rfl | hp
    · exact ⟨_, h1, fun _ z => (nomatch z), fun _ _ z => (nomatch z)⟩
    · rcases List.mem_cons.mp hp with rfl | hp
      · exact ⟨_, h2, fun _ z => (nomatch z), fun _ _ z => (nomatch z)⟩
      · exact TresOk.nt a p hp
theorem TresOk.nt {K : PySem.W.Frag} {G : Rg} {H : Hp} : ∀ {vs : List V} {fp : List Addr} {ts : List Tre}, TresOk K G H vs fp ts → ∀ p ∈ fp, Nt H p
  | _, _, _, .nil, p, hp => by cases hp
  | _, _, _, .cons h a n, p, hp => by
    rcases List.mem_append.mp hp with hp | hp
    · exact TreOk.nt h p hp
    · exact TresOk.nt a p hp
end
mutual
def trD : Tre → Option PyData
  | .d x => some x
  | .lst ts => (trDs ts).map PyData.list
  | .tup ts => (trDs ts).map PyData.tuple
  | .dic t ks ts => (trDs ts).map fun ds => udD t (ks.zip ds)
  | .ins nm fs ts => (trDs ts).map fun ds => inD nm (fs.zip ds)
def trDs : List Tre → Option (List PyData)
  | [] => some []
  | t :: ts => (trD t).bind fun d => (trDs ts).map (d :: ·)
end
theorem TresOk.len1 {K : PySem.W.Frag} {G : Rg} {H : Hp} : ∀ {vs : List V} {fp : List Addr} {ts : List Tre}, TresOk K G H vs fp ts → vs.length = ts.length
  | _, _, _, .nil => rfl
  | _, _, _, .cons _ a _ => by simp [TresOk.len1 a]
theorem trDs_len : ∀ {ts : List Tre} {ds : List PyData}, trDs ts = some ds → ts.length = ds.length
  | [], _, h => by rw [trDs] at h; cases h; rfl
  | t :: ts, ds, h => by
    rw [trDs] at h
    cases q : trD t with
    | none => rw [q] at h; cases h
    | some d =>
      rw [q] at h
      have h : (trDs ts).map (d :: ·) = some ds := h
      cases q2 : trDs ts with
      | none => rw [q2] at h; cases h
      | some es =>
        rw [q2] at h
        cases h
        simp [trDs_len q2]
theorem DcO.len {t : Dk} {a : Addr} {o : HO} {ks : List PyData} {vs : List V} (h : DcO t a o ks vs) : ks.length = vs.length := by
  cases t with
  | k => obtain ⟨kvs, _, rfl, rfl⟩ := h; simp
  | t => obtain ⟨kvs, _, rfl, rfl⟩ := h; simp
  | n =>
    obtain ⟨rs, kds, _, e, _, rfl, rfl⟩ := h
    have e : kds.length = rs.length := by have := congrArg List.length e; simpa using this
    have l1 : ∀ l : List PyData, (l.flatMap fun d => [d, PyData.none]).length = 2 * l.length := fun l => by
      induction l with
      | nil => rfl
      | cons x r ih => simp [ih]; omega
    have l2 : ∀ l : List (NestedKey × Addr × V), (l.flatMap fun r => [r.2.2, V.ref r.2.1]).length = 2 * l.length := fun l => by
      induction l with
      | nil => rfl
      | cons x r ih => simp [ih]; omega
    show (PyData.none :: _).length = (V.non :: _).length
    rw [List.length_cons, List.length_cons, l1, l2, e]
theorem zip_fst {α β : Type} {xs : List α} {ys : List β} (h : xs.length = ys.length) : (xs.zip ys).map (·.1) = xs := List.map_fst_zip (Nat.le_of_eq h)
theorem zip_snd {α β : Type} {xs : List α} {ys : List β} (h : xs.length = ys.length) : (xs.zip ys).map (·.2) = ys := List.map_snd_zip (Nat.le_of_eq h.symm)
mutual
theorem TreOk.dn {K : PySem.W.Frag} {G G' : Rg} {H : Hp} (g : RgLe G G') : ∀ {v : V} {fp : List Addr} {T : Tre}, TreOk K G H v fp T → (∀ a ∈ fp, ∀ o, H a = some o → G' a o) → ∀ d, trD T = some d → Dn K G' H v d
  | _, _, _, .d h, _, d, e => by
    rw [trD] at e
    cases e
    exact h.mono g (TupLe.rf _)
  | _, _, _, .lst (ts := ts) h a n, k, d, e => by
    rw [trD] at e
    cases q : trDs ts with
    | none => rw [q] at e; cases e
    | some ds =>
      rw [q] at e
      cases e
      exact .lst (.inl (k _ (by simp) _ h)) (TresOk.dn g a (fun x hx => k x (by simp [hx])) ds q)
  | _, _, _, .tup (ts := ts) h a, k, d, e => by
    rw [trD] at e
    cases q : trDs ts with
    | none => rw [q] at e; cases e
    | some ds =>
      rw [q] at e
      cases e
      exact .tup h (TresOk.dn g a k ds q)
  | _, _, _, .dic (ks := ks) (ts := ts) h c a n, k, d, e => by
    rw [trD] at e
    cases q : trDs ts with
    | none => rw [q] at e; cases e
    | some ds =>
      rw [q] at e
      cases e
      have hl : ks.length = ds.length := by rw [c.len, a.len1, trDs_len q]
      exact .dcu (k _ (by simp) _ h) (by rw [zip_fst hl]; exact c) (by rw [zip_snd hl]; exact TresOk.dn g a (fun x hx => k x (by simp [hx])) ds q)
  | _, _, _, .ins (fs := fs) (ts := ts) h1 h2 ne a n1 n2, k, d, e => by
    rw [trD] at e
    cases q : trDs ts with
    | none => rw [q] at e; cases e
    | some ds =>
      rw [q] at e
      cases e
      have hl : (fs.map (·.1)).length = ds.length := by
        have := a.len1
        rw [List.length_map] at this ⊢
        rw [this, trDs_len q]
      exact .ins (k _ (by simp) _ h1) (k _ (by simp) _ h2) (by rw [zip_fst hl]) (by rw [zip_snd hl]; exact TresOk.dn g a (fun x hx => k x (by simp [hx])) ds q)
theorem TresOk.dn {K : PySem.W.Frag} {G G' : Rg} {H : Hp} (g : RgLe G G') : ∀ {vs : List V} {fp : List Addr} {ts : List Tre}, TresOk K G H vs fp ts → (∀ a ∈ fp, ∀ o, H a = some o → G' a o) → ∀ ds, trDs ts = some ds → DnA K G' H vs ds
  | _, _, _, .nil, _, ds, e => by rw [trDs] at e; cases e; exact .nil
  | _, _, _, .cons (t := t) (ts := ts) h a n, k, ds, e => by
    rw [trDs] at e
    cases q : trD t with
    | none => rw [q] at e; cases e
    | some d =>
      rw [q] at e
      have e : (trDs ts).map (d :: ·) = some ds := e
      cases q2 : trDs ts with
      | none => rw [q2] at e; cases e
      | some es =>
        rw [q2] at e
        cases e
        exact .cons (TreOk.dn g h (fun x hx => k x (by simp [hx])) d q) (TresOk.dn g a (fun x hx => k x (by simp [hx])) es q2)
end
def mulT : Dk → List (PyData × List PyData) → Tre
  | .n, l => .dic .n (encK (l.map (·.1))) (.d .none :: l.flatMap fun z => [.lst (z.2.map .d), .d z.1])
  | t, l => .dic t (l.map (·.1)) (l.map fun z => .lst (z.2.map .d))
inductive Cl where
  | lst (ds : List PyData)
  | dic (t : Dk) (kvs : List (PyData × PyData))
  | feed (f : Fd)
  | tr (t : Tre)
  | mul (t : Dk) (l : List (PyData × List PyData))
def Cl.ok (K : PySem.W.Frag) (G : Rg) (H : Hp) (v : V) (fp : List Addr) : Cl → Prop
  | .lst ds => ∃ p vs, v = .ref p ∧ fp = [p] ∧ H p = some (.lst vs) ∧ DnA K G H vs ds
  | .dic t kvs => ∃ p o vs, v = .ref p ∧ fp = [p] ∧ H p = some o ∧ DcO t p o (kvs.map (·.1)) vs ∧ DnA K G H vs (kvs.map (·.2))
  | .feed f => ∃ d l, v = .ref d ∧ fp = [d, l] ∧ d ≠ l ∧ H d = some (.dK (fdK l f.2.1 f.2.2)) ∧ H l = some (.lst (f.1.map V.int))
  | .tr T => TreOk K G H v fp T ∧ ∃ p, v = .ref p ∧ (p ∈ fp ∨ ∃ xs, H p = some (.tup xs))
  | .mul t l => TreOk K G H v fp (mulT t l) ∧ ∃ p, v = .ref p ∧ (p ∈ fp ∨ ∃ xs, H p = some (.tup xs))
theorem Cl.mono {K : PySem.W.Frag} {G G' : Rg} {H H' : Hp} {v : V} {fp : List Addr} {c : Cl} (h : c.ok K G H v fp) (g : RgLe G G') (k : ∀ a ∈ fp, H' a = H a) (t : TupLe H H') : c.ok K G' H' v fp := by
  cases c with
  | lst ds =>
    obtain ⟨p, vs, rfl, rfl, h1, h2⟩ := h
    exact ⟨p, vs, rfl, rfl, by rw [k p (by simp)]; exact h1, h2.mono g t⟩
  | dic t' kvs =>
    obtain ⟨p, o, vs, rfl, rfl, h1, h2, h3⟩ := h
    exact ⟨p, o, vs, rfl, rfl, by rw [k p (by simp)]; exact h1, h2, h3.mono g t⟩
  | feed f =>
    obtain ⟨d, l, h1, h2, h3, h4, h5⟩ := h
    exact ⟨d, l, h1, h2, h3, by rw [k d (by simp [h2])]; exact h4, by rw [k l (by simp [h2])]; exact h5⟩
  | tr T =>
    obtain ⟨h1, p, h2, h3⟩ := h
    exact ⟨h1.mono g t k, p, h2, h3.imp id fun ⟨xs, z⟩ => ⟨xs, t _ _ z⟩⟩
  | mul T l =>
    obtain ⟨h1, p, h2, h3⟩ := h
    exact ⟨h1.mono g t k, p, h2, h3.imp id fun ⟨xs, z⟩ => ⟨xs, t _ _ z⟩⟩
theorem Cl.root {K : PySem.W.Frag} {G : Rg} {H : Hp} {p : Addr} {fp : List Addr} {c : Cl} (h : c.ok K G H (.ref p) fp) : p ∈ fp ∨ ∃ xs, H p = some (.tup xs) := by
  cases c with
  | lst ds =>
    obtain ⟨q, vs, h1, rfl, _⟩ := h
    cases h1; exact .inl (by simp)
  | dic t kvs =>
    obtain ⟨q, o, vs, h1, rfl, _⟩ := h
    cases h1; exact .inl (by simp)
  | feed f =>
    obtain ⟨q, l, h1, rfl, _⟩ := h
    cases h1; exact .inl (by simp)
  | tr T =>
    obtain ⟨_, q, h1, h2⟩ := h
    cases h1; exact h2
  | mul T l =>
    obtain ⟨_, q, h1, h2⟩ := h
    cases h1; exact h2
inductive Itm where
  | d (x : PyData)
  | r (k : Nat)
inductive ItsOk (K : PySem.W.Frag) (G : Rg) (H : Hp) (fp : List Addr) : List V → List Itm → Prop
  | nil : ItsOk K G H fp [] []
  | d {v : V} {x : PyData} {vs : List V} {nd : List Itm} : Dn K G H v x → ItsOk K G H fp vs nd → ItsOk K G H fp (v :: vs) (.d x :: nd)
  | r {k : Nat} {p : Addr} {vs : List V} {nd : List Itm} : fp[k]? = some p → ItsOk K G H fp vs nd → ItsOk K G H fp (.ref p :: vs) (.r k :: nd)
def PoolOk (K : PySem.W.Frag) (G : Rg) (H : Hp) (fp : List Addr) (ns : List (List Itm)) : Prop :=
  fp.length = ns.length ∧ fp.Nodup ∧ ∀ (k : Nat) (nd : List Itm), ns[k]? = some nd → ∃ p vs, fp[k]? = some p ∧ H p = some (.lst vs) ∧ ItsOk K G H fp vs nd
theorem ItsOk.mono {K : PySem.W.Frag} {G G' : Rg} {H H' : Hp} (g : RgLe G G') (t : TupLe H H') {fp : List Addr} : ∀ {vs : List V} {nd : List Itm}, ItsOk K G H fp vs nd → ItsOk K G' H' fp vs nd
  | _, _, .nil => .nil
  | _, _, .d h a => .d (h.mono g t) (ItsOk.mono g t a)
  | _, _, .r h a => .r h (ItsOk.mono g t a)
theorem PoolOk.mono {K : PySem.W.Frag} {G G' : Rg} {H H' : Hp} {fp : List Addr} {ns : List (List Itm)} (h : PoolOk K G H fp ns) (g : RgLe G G') (k : ∀ a ∈ fp, H' a = H a) (t : TupLe H H') : PoolOk K G' H' fp ns :=
  ⟨h.1, h.2.1, fun j nd e => by
    obtain ⟨p, vs, h1, h2, h3⟩ := h.2.2 j nd e
    exact ⟨p, vs, h1, by rw [k p (List.mem_of_getElem? h1)]; exact h2, h3.mono g t⟩⟩
inductive Sl where
  | un
  | dat (fr : Bool) (d : PyData)
  | own (c : Cl)
  | io (c : Cl)
  /-- a list of one's own that is walked: read, not changed -/
  | lent (c : Cl)
  /-- the list of number k of the pool at slot j -/
  | ref (j k : Nat)
  /-- a pool of lists that hold one another (at a slot that no name stands for) -/
  | pool (ns : List (List Itm))
def Sl.pl : Sl → Bool
  | .ref _ _ => true
  | .pool _ => true
  | _ => false
structure Exn where
  cls : Str
  flds : List (Str × PyData)
  st : List Sl
inductive R (α : Type) where
  | val (a : α)
  | exc (x : Exn)
  | bad
def R.bind {α β : Type} : R α → (α → R β) → R β
  | .val a, k => k a
  | .exc x, _ => .exc x
  | .bad, _ => .bad
def SlOk (K : PySem.W.Frag) (G : Gh) (H : Hp) (i : Nat) (ov : Option (Option V)) (fp : List Addr) : Sl → Prop
  | .un => fp = []
  | .dat fr d => fp = [] ∧ ∃ v, ov = some (some v) ∧ Dn K (rg G fr) H v d
  | .own c => ∃ v, ov = some (some v) ∧ (∀ p ∈ fp, G.H0 p = none) ∧ c.ok K (RgN G) H v fp
  | .io c => ∃ v, ov = some (some v) ∧ G.I i = some v ∧ c.ok K (RgN G) H v fp
  | .lent c => fp = [] ∧ ∃ p o, ov = some (some (.ref p)) ∧ G.I i = some (.ref p) ∧ H p = some o ∧ G.E p = some o ∧ (∀ xs, o ≠ .tup xs) ∧ c.ok K (RgN G) H (.ref p) [p]
  | .ref _ _ => fp = []
  | .pool ns => (∀ p ∈ fp, G.H0 p = none) ∧ PoolOk K (RgN G) H fp ns
theorem SlOk.mono {K : PySem.W.Frag} {G G' : Gh} {H H' : Hp} {i : Nat} {ov : Option (Option V)} {fp : List Addr} {s : Sl} (h : SlOk K G H i ov fp s) (e : Ext G H G' H') (k : ∀ a ∈ fp, H' a = H a) : SlOk K G' H' i ov fp s := by
  cases s with
  | un => exact h
  | dat fr d =>
    obtain ⟨h1, v, h2, h3⟩ := h
    exact ⟨h1, v, h2, e.dn h3⟩
  | own c =>
    obtain ⟨v, h2, h4, h3⟩ := h
    exact ⟨v, h2, fun p hp => by rw [e.h0]; exact h4 p hp, Cl.mono h3 e.n k e.t⟩
  | io c =>
    obtain ⟨v, h2, h4, h3⟩ := h
    exact ⟨v, h2, by rw [e.i]; exact h4, Cl.mono h3 e.n k e.t⟩
  | lent c =>
    obtain ⟨h1, p, o, h2, h3, h4, h5, h6, h7⟩ := h
    have h5' : G'.E p = some o := by rw [e.e]; exact h5
    have h4' : H' p = some o := (e.w.ex p o h5').1
    exact ⟨h1, p, o, h2, by rw [e.i]; exact h3, h4', h5', h6, Cl.mono h7 e.n (fun a ha => by
      have : a = p := by simpa using ha
      rw [this, h4, h4']) e.t⟩
  | ref j k => exact h
  | pool ns => exact ⟨fun p hp => by rw [e.h0]; exact h.1 p hp, h.2.mono e.n k e.t⟩
structure StaA (K : PySem.W.Frag) (G : Gh) (H : Hp) (σ : St) (Γ : List Sl) (A : Nat → List Addr) : Prop where
  w : Wf G H
  len : Γ.length = σ.length
  sl : ∀ i s, Γ[i]? = some s → SlOk K G H i σ[i]? (A i) s
  al : ∀ i p, p ∈ A i → H p ≠ none ∧ G.N p = none ∧ (p ∈ G.P ∨ G.H0 p = none)
  ae : ∀ i p, p ∈ A i → G.E p = none
  dj : ∀ i j p, p ∈ A i → p ∈ A j → i = j
  rf : ∀ (i j k : Nat) (ns : List (List Itm)), Γ[i]? = some (Sl.ref j k) → Γ[j]? = some (Sl.pool ns) → ∃ p, (A j)[k]? = some p ∧ σ[i]? = some (some (V.ref p))
theorem rf_set {Γ : List Sl} {σ σ' : St} {A A' : Nat → List Addr} {i : Nat} {s' : Sl} (rf : ∀ (i j k : Nat) (ns : List (List Itm)), Γ[i]? = some (Sl.ref j k) → Γ[j]? = some (Sl.pool ns) → ∃ p, (A j)[k]? = some p ∧ σ[i]? = some (some (V.ref p)))
    (hs : s'.pl = false) (hA : ∀ j, j ≠ i → A' j = A j) (hσ : ∀ j, j ≠ i → σ'[j]? = σ[j]?) : ∀ (a j k : Nat) (ns : List (List Itm)), (Γ.set i s')[a]? = some (Sl.ref j k) → (Γ.set i s')[j]? = some (Sl.pool ns) → ∃ p, (A' j)[k]? = some p ∧ σ'[a]? = some (some (V.ref p)) := fun a j k ns h1 h2 => by
  have key : ∀ (b : Nat) (x : Sl), x.pl = true → (Γ.set i s')[b]? = some x → b ≠ i ∧ Γ[b]? = some x := fun b x hx h => by
    by_cases e : b = i
    · subst e
      by_cases hl : b < Γ.length
      · rw [List.getElem?_set_self hl] at h
        cases h
        rw [hs] at hx; cases hx
      · rw [List.getElem?_eq_none (by simpa using hl)] at h; cases h
    · rw [List.getElem?_set_ne (Ne.symm e)] at h
      exact ⟨e, h⟩
  obtain ⟨n1, g1⟩ := key a _ rfl h1
  obtain ⟨n2, g2⟩ := key j _ rfl h2
  obtain ⟨p, q1, q2⟩ := rf a j k ns g1 g2
  exact ⟨p, by rw [hA j n2]; exact q1, by rw [hσ a n1]; exact q2⟩
def Sta (K : PySem.W.Frag) (G : Gh) (H : Hp) (σ : St) (Γ : List Sl) : Prop := ∃ A, StaA K G H σ Γ A
theorem Sta.w {K : PySem.W.Frag} {G : Gh} {H : Hp} {σ : St} {Γ : List Sl} (s : Sta K G H σ Γ) : Wf G H := s.elim fun _ a => a.w
structure Grow (G : Gh) (H : Hp) (N' H' : Hp) (fs : List Addr) : Prop where
  k : ∀ a o, H a = some o → a ∉ fs → H' a = some o
  al : ∀ a, a ∈ fs → H' a ≠ none
  t : TupLe H H'
  n : ∀ a o, G.N a = some o → N' a = some o
  n' : ∀ a o, N' a = some o → H' a = some o ∧ (G.N a = some o ∨ H a = none)
theorem Grow.wf {G : Gh} {H N' H' : Hp} {fs : List Addr} (g : Grow G H N' H' fs) (w : Wf G H) (hf : ∀ p ∈ fs, p ∈ G.P ∨ G.H0 p = none) (he : ∀ p ∈ fs, G.E p = none) : Wf ⟨G.H0, G.P, G.I, N', G.E⟩ H' := by
  have al : ∀ a, H a ≠ none → H' a ≠ none := fun a h => by
    by_cases hp : a ∈ fs
    · exact g.al a hp
    · cases q : H a with
      | none => exact absurd q h
      | some o => rw [g.k a o q hp]; simp
  refine ⟨fun a o h h2 => ?_, fun a o h => ?_, fun a h => al a (w.pal a h), w.p0, fun a o h => ?_, fun i p h => (w.iv i p h).imp id fun z => z.imp id fun ⟨xs, z⟩ => ⟨xs, g.t p xs z⟩⟩
  · refine g.k a o (w.keep a o h h2) fun hp => ?_
    rcases hf a hp with z | z
    · exact h2 z
    · rw [show G.H0 a = some o from h] at z; cases z
  · obtain ⟨h1, h2⟩ := g.n' a o h
    exact ⟨h1, trivial⟩
  · obtain ⟨h1, h2, h3⟩ := w.ex a o h
    refine ⟨g.k a o h1 fun hp => ?_, ?_, h3⟩
    · have h : G.E a = some o := h
      rw [he a hp] at h; cases h
    · show N' a = none
      cases q : N' a with
      | none => rfl
      | some u =>
        rcases (g.n' a u q).2 with z | z
        · rw [h2] at z; cases z
        · rw [h1] at z; cases z
theorem Wf.none0 {G : Gh} {H : Hp} (w : Wf G H) {a : Addr} (h2 : H a = none) : G.H0 a = none := by
  cases q : G.H0 a with
  | none => rfl
  | some u =>
    by_cases hp : a ∈ G.P
    · exact absurd h2 (w.pal a hp)
    · rw [w.keep a u q hp] at h2; cases h2
theorem Grow.ext {G : Gh} {H N' H' : Hp} {fs : List Addr} (g : Grow G H N' H' fs) (w : Wf G H) (hf : ∀ p ∈ fs, p ∈ G.P ∨ G.H0 p = none) (he : ∀ p ∈ fs, G.E p = none) : Ext G H ⟨G.H0, G.P, G.I, N', G.E⟩ H' :=
  ⟨rfl, rfl, rfl, rfl, g.n, fun a o h => (g.n' a o h).2.imp id fun z => w.none0 z, g.t, g.wf w hf he⟩
theorem Grow.at {G : Gh} {H N' H' : Hp} {fs : List Addr} (g : Grow G H N' H' fs) {a : Addr} (h : H a ≠ none) (hp : a ∉ fs) : H' a = H a := by
  cases q : H a with
  | none => exact absurd q h
  | some o => exact g.k a o q hp
theorem Sta.grow {K : PySem.W.Frag} {G : Gh} {H H' N' : Hp} {σ : St} {Γ : List Sl} (s : Sta K G H σ Γ) (g : Grow G H N' H' []) :
    Sta K ⟨G.H0, G.P, G.I, N', G.E⟩ H' σ Γ ∧ Ext G H ⟨G.H0, G.P, G.I, N', G.E⟩ H' := by
  obtain ⟨A, S⟩ := s
  have e := g.ext S.w (fun p hp => absurd hp (by simp)) (fun p hp => absurd hp (by simp))
  refine ⟨⟨A, e.w, S.len, fun i s h => (S.sl i s h).mono e fun a ha => g.at (S.al i a ha).1 (by simp), fun i p hp => ?_, S.ae, S.dj, S.rf⟩, e⟩
  obtain ⟨h1, h2, h3⟩ := S.al i p hp
  refine ⟨by rw [g.at h1 (by simp)]; exact h1, ?_, h3⟩
  show N' p = none
  cases q : N' p with
  | none => rfl
  | some o =>
    rcases (g.n' p o q).2 with z | z
    · rw [h2] at z; cases z
    · exact absurd z h1
theorem StaA.step {K : PySem.W.Frag} {G : Gh} {H H' N' : Hp} {σ σ' : St} {Γ : List Sl} {A : Nat → List Addr} {i : Nat} {s' : Sl} {fp' fs : List Addr} (S : StaA K G H σ Γ A) (g : Grow G H N' H' fs)
    (hfs : ∀ p ∈ fs, p ∈ A i) (hσ : ∀ j, j ≠ i → σ'[j]? = σ[j]?) (hl : σ'.length = σ.length) (sl' : i < Γ.length → SlOk K ⟨G.H0, G.P, G.I, N', G.E⟩ H' i σ'[i]? fp' s')
    (f : ∀ p ∈ fp', H' p ≠ none ∧ N' p = none ∧ (p ∈ A i ∨ H p = none)) (hpl : s'.pl = false := by first | rfl | (cases ‹Bool› <;> rfl)) :
    Sta K ⟨G.H0, G.P, G.I, N', G.E⟩ H' σ' (Γ.set i s') ∧ Ext G H ⟨G.H0, G.P, G.I, N', G.E⟩ H' := by
  have hf : ∀ p ∈ fs, p ∈ G.P ∨ G.H0 p = none := fun p hp => (S.al i p (hfs p hp)).2.2
  have he : ∀ p ∈ fs, G.E p = none := fun p hp => S.ae i p (hfs p hp)
  have e := g.ext S.w hf he
  have nf : ∀ j, j ≠ i → ∀ p, p ∈ A j → p ∉ fs := fun j hj p hp hq => hj (S.dj j i p hp (hfs p hq))
  refine ⟨⟨fun j => if j = i then fp' else A j, e.w, by rw [List.length_set, hl]; exact S.len, fun j s h => ?_, fun j p hp => ?_, fun j p hp => ?_, fun j k p hj hk => ?_, rf_set S.rf hpl (fun j hj => if_neg hj) hσ⟩, e⟩
  · by_cases hj : j = i
    · subst hj
      have hlt : j < Γ.length := by
        have := (List.getElem?_eq_some_iff.mp h).1
        simpa using this
      rw [List.getElem?_set_self hlt] at h
      cases h
      rw [if_pos rfl]
      exact sl' hlt
    · rw [List.getElem?_set_ne (Ne.symm hj)] at h
      rw [if_neg hj, hσ j hj]
      exact (S.sl j s h).mono e fun a ha => g.at (S.al j a ha).1 (nf j hj a ha)
  · by_cases hj : j = i
    · rw [if_pos hj] at hp
      obtain ⟨h1, h2, h3⟩ := f p hp
      refine ⟨h1, h2, ?_⟩
      rcases h3 with z | z
      · exact (S.al i p z).2.2
      · by_cases q : p ∈ G.P
        · exact .inl q
        · refine .inr ?_
          show G.H0 p = none
          cases r : G.H0 p with
          | none => rfl
          | some u => rw [S.w.keep p u r q] at z; cases z
    · rw [if_neg hj] at hp
      obtain ⟨h1, h2, h3⟩ := S.al j p hp
      refine ⟨by rw [g.at h1 (nf j hj p hp)]; exact h1, ?_, h3⟩
      show N' p = none
      cases q : N' p with
      | none => rfl
      | some o =>
        rcases (g.n' p o q).2 with z | z
        · rw [h2] at z; cases z
        · exact absurd z h1
  · show G.E p = none
    by_cases hj : j = i
    · rw [if_pos hj] at hp
      rcases (f p hp).2.2 with z | z
      · exact S.ae i p z
      · cases q : G.E p with
        | none => rfl
        | some u => rw [(S.w.ex p u q).1] at z; cases z
    · rw [if_neg hj] at hp
      exact S.ae j p hp
  · have key : ∀ j', j' ≠ i → p ∈ A j' → p ∈ fp' → False := fun j' hj' h1 h2 => by
      rcases (f p h2).2.2 with z | z
      · exact hj' (S.dj j' i p h1 z)
      · exact (S.al j' p h1).1 z
    by_cases hj' : j = i
    · by_cases hk' : k = i
      · rw [hj', hk']
      · rw [if_pos hj'] at hj
        rw [if_neg hk'] at hk
        exact (key k hk' hk hj).elim
    · by_cases hk' : k = i
      · rw [if_neg hj'] at hj
        rw [if_pos hk'] at hk
        exact (key j hj' hj hk).elim
      · rw [if_neg hj'] at hj
        rw [if_neg hk'] at hk
        exact S.dj j k p hj hk
theorem grow0 {G : Gh} {H : Hp} (w : Wf G H) : Grow G H G.N H [] := ⟨fun _ _ h _ => h, fun _ h => absurd h (by simp), TupLe.rf _, fun _ _ h => h, fun a o h => ⟨(w.new a o h).1, .inl h⟩⟩
theorem same_upd {H : Hp} {p : Addr} {o : HO} (h : H p = none) : Same H (upd H p o) := fun b x e => by
  rw [upd_ne (ne_of_none e h)]
  exact e
theorem tup_upd {H : Hp} {p : Addr} {o : HO} (h : H p = none) : TupLe H (upd H p o) := fun b x e => same_upd h _ _ e
theorem grow_new {G : Gh} {H : Hp} {p : Addr} {o : HO} (w : Wf G H) (h : H p = none) : Grow G H (upd G.N p o) (upd H p o) [] := by
  have hN : G.N p = none := by
    cases q : G.N p with
    | none => rfl
    | some u => rw [(w.new p u q).1] at h; cases h
  refine ⟨fun a u e _ => same_upd h a u e, fun _ h => absurd h (by simp), tup_upd h, fun a u e => same_upd hN a u e, fun a u e => ?_⟩
  by_cases ha : a = p
  · subst ha
    rw [upd_same] at e
    rw [upd_same]
    exact ⟨e, .inr h⟩
  · rw [upd_ne ha] at e
    rw [upd_ne ha]
    exact ⟨(w.new a u e).1, .inl e⟩
theorem grow_own {G : Gh} {H : Hp} {p : Addr} {o : HO} (w : Wf G H) (h : H p = none) : Grow G H G.N (upd H p o) [] :=
  ⟨fun a u e _ => same_upd h a u e, fun _ h => absurd h (by simp), tup_upd h, fun _ _ e => e, fun a u e => ⟨same_upd h a u (w.new a u e).1, .inl e⟩⟩
theorem grow_mut {G : Gh} {H : Hp} {p : Addr} {o u : HO} (w : Wf G H) (h : H p = some u) (hN : G.N p = none) (ht : ∀ xs, u ≠ .tup xs) (hz : ∀ x y, u ≠ .frz x y) : Grow G H G.N (upd H p o) [p] := by
  refine ⟨fun a x e hp => by rw [upd_ne (by simpa using hp)]; exact e, fun a ha => ?_, fun a xs e => ?_, fun _ _ e => e, fun a x e => ⟨?_, .inl e⟩⟩
  · have : a = p := by simpa using ha
    rw [this, upd_same]; simp
  · by_cases q : a = p
    · subst q; rw [h] at e; exact absurd (Option.some.inj e) (ht _)
    · rw [upd_ne q]; exact e
  · rw [upd_ne (fun q => by rw [q, hN] at e; cases e)]
    exact (w.new a x e).1
theorem set_at {α : Type} {l : List α} {i : Nat} {x : α} (h : i < l.length) : (l.set i x)[i]? = some x := List.getElem?_set_self h
theorem Wf.fresh {G : Gh} {H : Hp} {p : Addr} (w : Wf G H) (hp : H p = none) : G.N p = none ∧ G.H0 p = none ∧ p ∉ G.P := by
  have h3 : p ∉ G.P := fun z => w.pal p z hp
  refine ⟨?_, ?_, h3⟩
  · cases q : G.N p with
    | none => rfl
    | some u => rw [(w.new p u q).1] at hp; cases hp
  · cases q : G.H0 p with
    | none => rfl
    | some u => rw [w.keep p u q h3] at hp; cases hp
theorem Sta.put {K : PySem.W.Frag} {G : Gh} {H : Hp} {σ : St} {Γ : List Sl} {fr : Bool} {d : PyData} {v : V} (s : Sta K G H σ Γ) (i : Nat) (h : Dn K (rg G fr) H v d) :
    Sta K G H (σ.set i (some v)) (Γ.set i (.dat fr d)) := by
  obtain ⟨A, S⟩ := s
  refine (S.step (i := i) (fp' := []) (s' := .dat fr d) (σ' := σ.set i (some v)) (grow0 S.w) (fun p hp => absurd hp (by simp)) (fun j hj => List.getElem?_set_ne (Ne.symm hj)) (List.length_set ..) (fun hlt => ⟨rfl, v, ?_, h⟩) (fun p hp => absurd hp (by simp))).1
  exact set_at (by rw [← S.len]; exact hlt)
theorem Sta.forget {K : PySem.W.Frag} {G : Gh} {H : Hp} {σ : St} {Γ : List Sl} (s : Sta K G H σ Γ) (i : Nat) : Sta K G H σ (Γ.set i .un) := by
  obtain ⟨A, S⟩ := s
  exact (S.step (i := i) (fp' := []) (s' := .un) (σ' := σ) (grow0 S.w) (fun p hp => absurd hp (by simp)) (fun j hj => rfl) rfl (fun hlt => rfl) (fun p hp => absurd hp (by simp))).1
theorem Sta.freeze {K : PySem.W.Frag} {G : Gh} {H : Hp} {σ : St} {Γ : List Sl} {ds : List PyData} (s : Sta K G H σ Γ) (i : Nat) (hi : Γ[i]? = some (.own (.lst ds))) :
    ∃ G', Sta K G' H σ (Γ.set i (.dat true (.list ds))) ∧ Ext G H G' H := by
  obtain ⟨A, S⟩ := s
  obtain ⟨v, h1, h0, p, vs, rfl, hfp, hp, hd⟩ := S.sl i _ hi
  have hpA : p ∈ A i := by rw [hfp]; simp
  have hN : G.N p = none := (S.al i p hpA).2.1
  have h00 : G.H0 p = none := h0 p hpA
  have n1 : ∀ a o, G.N a = some o → upd G.N p (.lst vs) a = some o := fun a o e => same_upd hN a o e
  have hE : ∀ a o, G.E a = some o → upd G.N p (.lst vs) a = none := fun a o ha => by
    have z : a ≠ p := fun z => by
      have q := S.ae i p hpA
      rw [z, q] at ha
      cases ha
    rw [upd_ne z]
    exact (S.w.ex a o ha).2.1
  have e : Ext G H ⟨G.H0, G.P, G.I, upd G.N p (.lst vs), G.E⟩ H := by
    refine ⟨rfl, rfl, rfl, rfl, n1, fun a o ha => ?_, TupLe.rf _, S.w.keep, fun a o ha => ?_, S.w.pal, S.w.p0, fun a o ha => ⟨(S.w.ex a o ha).1, hE a o ha, (S.w.ex a o ha).2.2⟩, S.w.iv⟩
    · have ha : upd G.N p (.lst vs) a = some o := ha
      by_cases q : a = p
      · subst q; exact .inr h00
      · rw [upd_ne q] at ha; exact .inl ha
    have ha : upd G.N p (.lst vs) a = some o := ha
    by_cases q : a = p
    · subst q
      rw [upd_same] at ha
      cases ha
      exact ⟨hp, trivial⟩
    · rw [upd_ne q] at ha
      exact S.w.new a o ha
  refine ⟨_, ⟨fun j => if j = i then [] else A j, e.w, by rw [List.length_set]; exact S.len, fun j s h => ?_, fun j q hq => ?_, fun j q hq => ?_, fun j k q hj hk => ?_, rf_set S.rf rfl (fun j hj => if_neg hj) (fun _ _ => rfl)⟩, e⟩
  · by_cases hj : j = i
    · subst hj
      rw [List.getElem?_set_self (List.getElem?_eq_some_iff.mp hi).1] at h
      cases h
      rw [if_pos rfl]
      exact ⟨rfl, .ref p, h1, .lst (.inl upd_same) (hd.mono n1 (TupLe.rf _))⟩
    · rw [List.getElem?_set_ne (Ne.symm hj)] at h
      rw [if_neg hj]
      exact (S.sl j s h).mono e fun a ha => rfl
  · by_cases hj : j = i
    · rw [if_pos hj] at hq; cases hq
    · rw [if_neg hj] at hq
      obtain ⟨h2, h3, h4⟩ := S.al j q hq
      refine ⟨h2, ?_, h4⟩
      show upd G.N p (.lst vs) q = none
      rw [upd_ne (fun z => hj (S.dj j i q hq (by rw [z]; exact hpA)))]
      exact h3
  · by_cases hj : j = i
    · rw [if_pos hj] at hq; cases hq
    · rw [if_neg hj] at hq
      exact S.ae j q hq
  · by_cases hj' : j = i
    · rw [if_pos hj'] at hj; cases hj
    · by_cases hk' : k = i
      · rw [if_pos hk'] at hk; cases hk
      · rw [if_neg hj'] at hj
        rw [if_neg hk'] at hk
        exact S.dj j k q hj hk
theorem Sta.change {K : PySem.W.Frag} {G : Gh} {H : Hp} {σ : St} {Γ : List Sl} {ds : List PyData} (s : Sta K G H σ Γ) (i : Nat) (hi : Γ[i]? = some (.own (.lst ds))) :
    ∃ p vs, σ[i]? = some (some (.ref p)) ∧ H p = some (.lst vs) ∧ DnA K (rg G true) H vs ds ∧
      ∀ vs' ds', DnA K (rg G true) H vs' ds' → Sta K G (upd H p (.lst vs')) σ (Γ.set i (.own (.lst ds'))) ∧ Ext G H G (upd H p (.lst vs')) := by
  obtain ⟨A, S⟩ := s
  obtain ⟨v, h1, h0, p, vs, rfl, hfp, hp, hd⟩ := S.sl i _ hi
  have hpA : p ∈ A i := by rw [hfp]; simp
  have hN : G.N p = none := (S.al i p hpA).2.1
  refine ⟨p, vs, h1, hp, hd, fun vs' ds' hd' => ?_⟩
  have g : Grow G H G.N (upd H p (.lst vs')) [p] := grow_mut S.w hp hN (fun xs z => by cases z) (fun x y z => by cases z)
  refine S.step (i := i) (fp' := [p]) (s' := .own (.lst ds')) (σ' := σ) g (fun q hq => ?_) (fun j hj => rfl) rfl (fun hlt => ⟨.ref p, h1, fun q hq => ?_, p, vs', rfl, rfl, upd_same, hd'.mono (fun _ _ z => z) g.t⟩) (fun q hq => ?_)
  · have : q = p := by simpa using hq
    rw [this]; exact hpA
  · have : q = p := by simpa using hq
    rw [this]; exact h0 p hpA
  · have : q = p := by simpa using hq
    rw [this]
    exact ⟨by rw [upd_same]; simp, hN, .inl hpA⟩
theorem Sta.changeIo {K : PySem.W.Frag} {G : Gh} {H : Hp} {σ : St} {Γ : List Sl} {ds : List PyData} (s : Sta K G H σ Γ) (i : Nat) (hi : Γ[i]? = some (.io (.lst ds))) :
    ∃ p vs, σ[i]? = some (some (.ref p)) ∧ H p = some (.lst vs) ∧ DnA K (rg G true) H vs ds ∧
      ∀ vs' ds', DnA K (rg G true) H vs' ds' → Sta K G (upd H p (.lst vs')) σ (Γ.set i (.io (.lst ds'))) ∧ Ext G H G (upd H p (.lst vs')) := by
  obtain ⟨A, S⟩ := s
  obtain ⟨v, h1, h0, p, vs, rfl, hfp, hp, hd⟩ := S.sl i _ hi
  have hpA : p ∈ A i := by rw [hfp]; simp
  have hN : G.N p = none := (S.al i p hpA).2.1
  refine ⟨p, vs, h1, hp, hd, fun vs' ds' hd' => ?_⟩
  have g : Grow G H G.N (upd H p (.lst vs')) [p] := grow_mut S.w hp hN (fun xs z => by cases z) (fun x y z => by cases z)
  refine S.step (i := i) (fp' := [p]) (s' := .io (.lst ds')) (σ' := σ) g (fun q hq => ?_) (fun j hj => rfl) rfl (fun hlt => ⟨.ref p, h1, h0, p, vs', rfl, rfl, upd_same, hd'.mono (fun _ _ z => z) g.t⟩) (fun q hq => ?_)
  · have : q = p := by simpa using hq
    rw [this]; exact hpA
  · have : q = p := by simpa using hq
    rw [this]
    exact ⟨by rw [upd_same]; simp, hN, .inl hpA⟩
theorem Sta.pin {K : PySem.W.Frag} {G : Gh} {H : Hp} {σ : St} {Γ : List Sl} {D : Addr} {o : HO} (S : Sta K G H σ Γ) (hD : H D = none) : Sta K ⟨G.H0, G.P, G.I, G.N, upd G.E D o⟩ (upd H D o) σ Γ ∧ TupLe H (upd H D o) := by
  obtain ⟨A, S⟩ := S
  obtain ⟨f1, f2, f3⟩ := S.w.fresh hD
  have t := tup_upd (o := o) hD
  have nA : ∀ i, D ∉ A i := fun i h => (S.al i D h).1 hD
  have w : Wf ⟨G.H0, G.P, G.I, G.N, upd G.E D o⟩ (upd H D o) := by
    refine ⟨fun a u h h2 => same_upd hD _ _ (S.w.keep a u h h2), fun a u h => ⟨same_upd hD _ _ (S.w.new a u h).1, (S.w.new a u h).2⟩, fun a h => ?_, S.w.p0, fun a u h => ?_, fun i q h => (S.w.iv i q h).imp id fun z => z.imp (fun z => ?_) fun ⟨xs, z⟩ => ⟨xs, t q xs z⟩⟩
    rotate_left 2
    · by_cases e : q = D
      · show upd G.E D o q ≠ none
        rw [e, upd_same]; simp
      · show upd G.E D o q ≠ none
        rw [upd_ne e]; exact z
    · rw [upd_ne (show a ≠ D from fun z => f3 (z ▸ h))]
      exact S.w.pal a h
    · by_cases q : a = D
      · subst q
        have h : upd G.E a o a = some u := h
        rw [upd_same] at h ⊢
        exact ⟨h, f1, f2, f3⟩
      · have h : upd G.E D o a = some u := h
        rw [upd_ne q] at h ⊢
        exact S.w.ex a u h
  refine ⟨⟨A, w, S.len, fun i s h => ?_, fun i p h => ⟨?_, (S.al i p h).2⟩, fun i p h => ?_, S.dj, S.rf⟩, t⟩
  · have q := S.sl i s h
    cases s with
    | un => exact q
    | dat fr d =>
      obtain ⟨q1, v, q2, q3⟩ := q
      exact ⟨q1, v, q2, q3.mono (fun a o z => by cases fr <;> exact z) t⟩
    | own c =>
      obtain ⟨v, q2, q4, q3⟩ := q
      exact ⟨v, q2, q4, Cl.mono q3 (fun a o z => z) (fun a ha => upd_ne (fun z => nA i (z ▸ ha))) t⟩
    | io c =>
      obtain ⟨v, q2, q4, q3⟩ := q
      exact ⟨v, q2, q4, Cl.mono q3 (fun a o z => z) (fun a ha => upd_ne (fun z => nA i (z ▸ ha))) t⟩
    | lent c =>
      obtain ⟨q1, p, u, q2, q3, q4, q5, q6, q7⟩ := q
      have ne : p ≠ D := fun z => by rw [z, hD] at q4; cases q4
      exact ⟨q1, p, u, q2, q3, by rw [upd_ne ne]; exact q4, by show upd G.E D o p = _; rw [upd_ne ne]; exact q5, q6, Cl.mono q7 (fun a o z => z) (fun a ha => by
        have : a = p := by simpa using ha
        rw [this, upd_ne ne]) t⟩
    | ref _ _ => exact q
    | pool ns => exact ⟨q.1, q.2.mono (fun a o z => z) (fun a ha => upd_ne (fun z => nA i (z ▸ ha))) t⟩
  · rw [upd_ne (show p ≠ D from fun z => nA i (z ▸ h))]
    exact (S.al i p h).1
  · show upd G.E D o p = none
    rw [upd_ne (show p ≠ D from fun z => nA i (z ▸ h))]
    exact S.ae i p h
def del (H : Hp) (D : Addr) : Hp := fun b => if b = D then none else H b
theorem del_ne {H : Hp} {D b : Addr} (h : b ≠ D) : PD.del H D b = H b := by unfold PD.del; rw [if_neg h]
theorem del_same {H : Hp} {D : Addr} : PD.del H D D = none := by unfold PD.del; rw [if_pos rfl]
theorem del_upd {H : Hp} {D : Addr} {o : HO} (h : H D = some o) : upd (PD.del H D) D o = H := by
  funext b
  by_cases q : b = D
  · subst q; rw [upd_same, h]
  · rw [upd_ne q, del_ne q]
theorem Sta.unpin {K : PySem.W.Frag} {G : Gh} {H : Hp} {σ : St} {Γ : List Sl} {D : Addr} {o : HO} {E0 : Hp} (S : Sta K G H σ Γ) (hE : G.E = upd E0 D o) (h0 : E0 D = none) (ho : ∀ xs, o ≠ .tup xs) (hz : ∀ x y, o ≠ .frz x y) (hI : ∀ i, G.I i ≠ some (.ref D)) : Sta K ⟨G.H0, G.P, G.I, G.N, E0⟩ (PD.del H D) σ Γ ∧ H D = some o ∧ TupLe H (PD.del H D) := by
  obtain ⟨A, S⟩ := S
  have eD : G.E D = some o := by rw [hE, upd_same]
  obtain ⟨g1, g2, g3, g4⟩ := S.w.ex D o eD
  have nA : ∀ i, D ∉ A i := fun i h => by
    have := S.ae i D h
    rw [eD] at this; cases this
  have t : TupLe H (PD.del H D) := fun a xs h => by
    rw [del_ne (fun z => by rw [z, g1] at h; exact ho xs (Option.some.inj h))]
    exact h
  have nD : ∀ a u, G.N a = some u → a ≠ D := fun a u h z => by rw [z, g2] at h; cases h
  have w : Wf ⟨G.H0, G.P, G.I, G.N, E0⟩ (PD.del H D) := by
    refine ⟨fun a u h h2 => ?_, fun a u h => ?_, fun a h => ?_, S.w.p0, fun a u h => ?_, fun i q h => (S.w.iv i q h).imp id fun z => z.imp (fun z => ?_) fun ⟨xs, z⟩ => ⟨xs, t q xs z⟩⟩
    rotate_right
    · have ne : q ≠ D := fun e => hI i (e ▸ h)
      show E0 q ≠ none
      rw [hE, upd_ne ne] at z
      exact z
    · rw [del_ne (fun z => by rw [z] at h; rw [show G.H0 D = some u from h] at g3; cases g3)]
      exact S.w.keep a u h h2
    · rw [del_ne (nD a u h)]
      exact S.w.new a u h
    · rw [del_ne (show a ≠ D from fun z => g4 (z ▸ h))]
      exact S.w.pal a h
    · have h : E0 a = some u := h
      have q : a ≠ D := fun z => by rw [z, h0] at h; cases h
      rw [del_ne q]
      exact S.w.ex a u (by rw [hE, upd_ne q]; exact h)
  refine ⟨⟨A, w, S.len, fun i s h => ?_, fun i p h => ⟨?_, (S.al i p h).2⟩, fun i p h => ?_, S.dj, S.rf⟩, g1, t⟩
  · have q := S.sl i s h
    cases s with
    | un => exact q
    | dat fr d =>
      obtain ⟨q1, v, q2, q3⟩ := q
      exact ⟨q1, v, q2, q3.mono (fun a o z => by cases fr <;> exact z) t⟩
    | own c =>
      obtain ⟨v, q2, q4, q3⟩ := q
      exact ⟨v, q2, q4, Cl.mono q3 (fun a o z => z) (fun a ha => del_ne (fun z => nA i (z ▸ ha))) t⟩
    | io c =>
      obtain ⟨v, q2, q4, q3⟩ := q
      exact ⟨v, q2, q4, Cl.mono q3 (fun a o z => z) (fun a ha => del_ne (fun z => nA i (z ▸ ha))) t⟩
    | lent c =>
      obtain ⟨q1, p, u, q2, q3, q4, q5, q6, q7⟩ := q
      have ne : p ≠ D := fun z => hI i (by rw [← z]; exact q3)
      exact ⟨q1, p, u, q2, q3, by rw [del_ne ne]; exact q4, by show E0 p = _; rw [hE, upd_ne ne] at q5; exact q5, q6, Cl.mono q7 (fun a o z => z) (fun a ha => by
        have : a = p := by simpa using ha
        rw [this, del_ne ne]) t⟩
    | ref _ _ => exact q
    | pool ns => exact ⟨q.1, q.2.mono (fun a o z => z) (fun a ha => del_ne (fun z => nA i (z ▸ ha))) t⟩
  · rw [del_ne (show p ≠ D from fun z => nA i (z ▸ h))]
    exact (S.al i p h).1
  · show E0 p = none
    have := S.ae i p h
    rw [hE, upd_ne (show p ≠ D from fun z => nA i (z ▸ h))] at this
    exact this
theorem Sta.blank {K : PySem.W.Frag} {G : Gh} {H : Hp} {σ : St} {Γ : List Sl} (s : Sta K G H σ Γ) (i : Nat) (o : Option V) : Sta K G H (σ.set i o) (Γ.set i .un) := by
  obtain ⟨A, S⟩ := s
  exact (S.step (i := i) (fp' := []) (s' := .un) (σ' := σ.set i o) (grow0 S.w) (fun p hp => absurd hp (by simp)) (fun j hj => List.getElem?_set_ne (Ne.symm hj)) (List.length_set ..) (fun hlt => rfl) (fun p hp => absurd hp (by simp))).1
theorem Sta.swap {K : PySem.W.Frag} {G : Gh} {H : Hp} {σ σ' : St} {Γ : List Sl} (s : Sta K G H σ Γ) (hl : σ'.length = σ.length) (h : ∀ i : Nat, σ'[i]? = σ[i]? ∨ Γ[i]? = some Sl.un) : Sta K G H σ' Γ := by
  obtain ⟨A, S⟩ := s
  refine ⟨A, S.w, by rw [hl]; exact S.len, fun i sl e => ?_, S.al, S.ae, S.dj, fun i j k ns e1 e2 => ?_⟩
  rotate_left
  · obtain ⟨p, q1, q2⟩ := S.rf i j k ns e1 e2
    refine ⟨p, q1, ?_⟩
    rcases h i with q | q
    · rw [q]; exact q2
    · rw [q] at e1; cases e1
  rcases h i with q | q
  · rw [q]; exact S.sl i sl e
  · rw [q] at e
    cases e
    exact S.sl i .un q
end PD
set_option Elab.async false
set_option linter.all false
set_option maxRecDepth 100000
set_option maxHeartbeats 4000000
namespace PD
open PySem L2
inductive AV where
  | d (fr : Bool) (d : PyData)
  | s (i : Nat)
def AVok (K : PySem.W.Frag) (G : Gh) (H : Hp) (σ : St) (v : V) : AV → Prop
  | .d fr d => Dn K (rg G fr) H v d
  | .s i => σ[i]? = some (some v)
theorem AVok.ext {K : PySem.W.Frag} {G G' : Gh} {H H' : Hp} {σ : St} {v : V} {a : AV} (h : AVok K G H σ v a) (e : Ext G H G' H') : AVok K G' H' σ v a := by
  cases a with
  | d fr d => exact e.dn h
  | s i => exact h
def FldsOk (K : PySem.W.Frag) (G : Rg) (H : Hp) (fs : List (Str × V)) (flds : List (Str × PyData)) : Prop := fs.map (·.1) = flds.map (·.1) ∧ DnA K G H (fs.map (·.2)) (flds.map (·.2))
def XdOk (K : PySem.W.Frag) (G : Rg) (H : Hp) (d : Option Addr) (flds : List (Str × PyData)) : Prop :=
  (∃ a fs, d = some a ∧ G a (.xd fs) ∧ FldsOk K G H fs flds) ∨ (d = none ∧ flds = [])
def XW (X : Cx) (W : WX) (G : Gh) (H : Hp) (_ : St) (x : Exn) : Prop :=
  ∀ G' H' σ' C d, Ext G H G' H' → Sta X.K G' H' σ' x.st → X.mg x.cls = some (.ref C) → XdOk X.K (rg G' true) H' d x.flds → W (.ref C) d σ' H'
theorem XW.ext {X : Cx} {W : WX} {G G' : Gh} {H H' : Hp} {σ : St} {x : Exn} (h : XW X W G H σ x) (e : Ext G H G' H') : XW X W G' H' σ x := fun G2 H2 σ2 C d e2 => h G2 H2 σ2 C d (e.tr e2)
def Pst (X : Cx) (W : WX) (G : Gh) (H : Hp) (σ : St) {τ : Type} (m : R τ) (P : τ → Gh → Hp → Prop) : Prop :=
  match m with
  | .bad => False
  | .exc x => XW X W G H σ x
  | .val r => ∀ G' H', Ext G H G' H' → P r G' H'
theorem Pst.ext {X : Cx} {W : WX} {G G' : Gh} {H H' : Hp} {σ : St} {τ : Type} {m : R τ} {P : τ → Gh → Hp → Prop} (h : Pst X W G H σ m P) (e : Ext G H G' H') : Pst X W G' H' σ m P := by
  cases m with
  | bad => exact h
  | exc x => exact XW.ext (σ := σ) h e
  | val r => exact fun G2 H2 e2 => h G2 H2 (e.tr e2)
theorem Pst.imp {X : Cx} {W : WX} {G : Gh} {H : Hp} {σ : St} {τ : Type} {m : R τ} {P P' : τ → Gh → Hp → Prop} (h : Pst X W G H σ m P) (k : ∀ r G' H', Ext G H G' H' → P r G' H' → P' r G' H') : Pst X W G H σ m P' := by
  cases m with
  | bad => exact h
  | exc x => exact h
  | val r => exact fun G2 H2 e2 => k r G2 H2 e2 (h G2 H2 e2)
theorem Pst.impG {X : Cx} {W : WX} {G : Gh} {H : Hp} {σ : St} {τ : Type} {m : R τ} {P P' : τ → Gh → Hp → Prop} (h : Pst X W G H σ m P) (k : ∀ r G' H', Ext G H G' H' → (∀ G2 H2, Ext G' H' G2 H2 → P r G2 H2) → P' r G' H') : Pst X W G H σ m P' := by
  cases m with
  | bad => exact h
  | exc x => exact h
  | val r => exact fun G2 H2 e2 => k r G2 H2 e2 fun G3 H3 e3 => h G3 H3 (e2.tr e3)
theorem Pst.bind {X : Cx} {W : WX} {G : Gh} {H : Hp} {σ : St} {τ ρ : Type} {m : R τ} {k : τ → R ρ} {P : ρ → Gh → Hp → Prop} (h : Pst X W G H σ (m.bind k) P) : Pst X W G H σ m (fun r G' H' => Pst X W G' H' σ (k r) P) := by
  cases m with
  | bad => exact h
  | exc x => exact h
  | val r => exact fun G2 H2 e2 => Pst.ext h e2
section
variable (X : Cx) (W : WX) (Γ : List Sl)
def rdE {τ : Type} (m : R τ) (av : τ → AV) (Γ' : τ → List Sl) : TE := fun σ H Q => ∃ G, Sta X.K G H σ Γ ∧ Pst X W G H σ m fun r G' H' => ∀ v, Sta X.K G' H' σ (Γ' r) → AVok X.K G' H' σ v (av r) → Q v H'
def rdT {τ : Type} (m : R τ) (b : τ → Bool) (Γ' : τ → List Sl) : TT := fun σ H Q => ∃ G, Sta X.K G H σ Γ ∧ Pst X W G H σ m fun r G' H' => Sta X.K G' H' σ (Γ' r) → Q (b r) H'
def rdF {τ : Type} (m : R τ) (ds : τ → List PyData) (Γ' : τ → List Sl) : TE := fun σ H Q => ∃ G, Sta X.K G H σ Γ ∧ Pst X W G H σ m fun r G' H' => ∀ p vs, Sta X.K G' H' σ (Γ' r) → H' p = none → DnA X.K (rg G' true) H' vs (ds r) → Q (.ref p) (upd H' p (.lst vs))
inductive AVs (K : PySem.W.Frag) (G : Gh) (H : Hp) (σ : St) : List V → List AV → Prop
  | nil : AVs K G H σ [] []
  | cons {v : V} {vs : List V} {a : AV} {as : List AV} : AVok K G H σ v a → AVs K G H σ vs as → AVs K G H σ (v :: vs) (a :: as)
def rdA {τ : Type} (m : R τ) (as : τ → List AV) (Γ' : τ → List Sl) : TA := fun σ H Q => ∃ G, Sta X.K G H σ Γ ∧ Pst X W G H σ m fun r G' H' => ∀ vs, Sta X.K G' H' σ (Γ' r) → AVs X.K G' H' σ vs (as r) → Q vs H'
def Ev (e : Expr) {τ : Type} (m : R τ) (av : τ → AV) (Γ' : τ → List Sl) : Prop := PE X e (rdE X W Γ m av Γ')
def EvT (e : Expr) {τ : Type} (m : R τ) (b : τ → Bool) (Γ' : τ → List Sl) : Prop := PT X e (rdT X W Γ m b Γ')
def EvF (e : Expr) {τ : Type} (m : R τ) (ds : τ → List PyData) (Γ' : τ → List Sl) : Prop := PE X e (rdF X W Γ m ds Γ')
def EvA (es : List Expr) {τ : Type} (m : R τ) (as : τ → List AV) (Γ' : τ → List Sl) : Prop := PA X es (rdA X W Γ m as Γ')
abbrev EvP (e : Expr) (a : AV) : Prop := Ev X W Γ e (R.val ()) (fun _ => a) (fun _ => Γ)
end
theorem AVs.ext {K : PySem.W.Frag} {G G' : Gh} {H H' : Hp} {σ : St} (e : Ext G H G' H') : ∀ {vs : List V} {as : List AV}, AVs K G H σ vs as → AVs K G' H' σ vs as
  | _, _, .nil => .nil
  | _, _, .cons h a => .cons (h.ext e) (AVs.ext e a)
theorem pe_imp {X : Cx} {e : Expr} {t t' : TE} (h : PE X e t) (k : ∀ σ H Q, t' σ H Q → t σ H Q) : PE X e t' := ⟨fun pins s σ H Q I z => h.run pins s σ H Q I (k σ H Q z)⟩
theorem pt_imp {X : Cx} {e : Expr} {t t' : TT} (h : PT X e t) (k : ∀ σ H Q, t' σ H Q → t σ H Q) : PT X e t' := ⟨fun pins s σ H Q I z => h.run pins s σ H Q I (k σ H Q z)⟩
theorem pw_imp {X : Cx} {e : Expr} {t t' : TT} (h : PW X e t) (k : ∀ σ H Q, t' σ H Q → t σ H Q) : PW X e t' := ⟨fun w pins s σ H Q I z => h.run w pins s σ H Q I (k σ H Q z)⟩
theorem pa_imp {X : Cx} {es : List Expr} {t t' : TA} (h : PA X es t) (k : ∀ σ H Q, t' σ H Q → t σ H Q) : PA X es t' := ⟨fun pos pins s σ H Q I z => h.run pos pins s σ H Q I (k σ H Q z)⟩
theorem pe_any {X : Cx} {e : Expr} {α : Type} {t : α → TE} (h : ∀ x, PE X e (t x)) : PE X e (fun σ H Q => ∃ x, t x σ H Q) := ⟨fun pins s σ H Q I ⟨x, z⟩ => (h x).run pins s σ H Q I z⟩
theorem pt_any {X : Cx} {e : Expr} {α : Type} {t : α → TT} (h : ∀ x, PT X e (t x)) : PT X e (fun σ H Q => ∃ x, t x σ H Q) := ⟨fun pins s σ H Q I ⟨x, z⟩ => (h x).run pins s σ H Q I z⟩
theorem pw_any {X : Cx} {e : Expr} {α : Type} {t : α → TT} (h : ∀ x, PW X e (t x)) : PW X e (fun σ H Q => ∃ x, t x σ H Q) := ⟨fun w pins s σ H Q I ⟨x, z⟩ => (h x).run w pins s σ H Q I z⟩
theorem pa_any {X : Cx} {es : List Expr} {α : Type} {t : α → TA} (h : ∀ x, PA X es (t x)) : PA X es (fun σ H Q => ∃ x, t x σ H Q) := ⟨fun pos pins s σ H Q I ⟨x, z⟩ => (h x).run pos pins s σ H Q I z⟩
def visB (sc : Scope) (x : Str) : Bool := match sc.names.lookup x with
  | some .local => true
  | some .cell => true
  | some .free => true
  | _ => false
def glB (sc : Scope) (x : Str) : Bool := match sc.names.lookup x with
  | some .globalImplicit => true
  | _ => false
def locB (sc : Scope) (x : Str) : Bool := match sc.names.lookup x with
  | some .local => true
  | some .cell => true
  | _ => false
theorem loc_of {sc : Scope} {x : Str} (h : locB sc x = true) : Loc sc x := by
  unfold locB at h
  split at h
  · exact .inl ‹_›
  · exact .inr ‹_›
  · cases h
theorem vis_of {sc : Scope} {x : Str} (h : visB sc x = true) : Vis sc x := by
  unfold visB at h
  split at h
  · exact .inl ‹_›
  · exact .inr (.inl ‹_›)
  · exact .inr (.inr ‹_›)
  · cases h
theorem gl_of {sc : Scope} {x : Str} (h : glB sc x = true) : sc.names.lookup x = some .globalImplicit := by
  unfold glB at h
  split at h
  · assumption
  · cases h
def Sto (X : Cx) (sc : Scope) (x : Str) : Prop := Loc sc x ∧ (X.fn x = true ∨ sc.names.lookup x = some .local)
def lclB (sc : Scope) (x : Str) : Bool := match sc.names.lookup x with
  | some .local => true
  | _ => false
theorem sto_l {X : Cx} {sc : Scope} {x : Str} (h : lclB sc x = true) : Sto X sc x := by
  unfold lclB at h
  split at h
  · exact ⟨.inl ‹_›, .inr ‹_›⟩
  · cases h
theorem sto_c {X : Cx} {sc : Scope} {x : Str} (D : ∀ x, X.fn x = true) (h : locB sc x = true) : Sto X sc x := ⟨loc_of h, .inl (D x)⟩
structure Cf0 (X : Cx) (W : WX) (sc : Scope) (N : List Str) : Prop where
  hsc : X.env.scope = sc
  hN : X.N = N
  nd : N.Nodup
  tk : Takes X W
  hu : X.A.units + 64 < cLine
  pass : PassesOwn (model X.prog X.w) X.A X.env X.xe
  hu2 : X.A.units + 150 < cLine
structure Cf (X : Cx) (W : WX) (sc : Scope) (N : List Str) : Prop extends Cf0 X W sc N where
  calm : X.calm = true
section
variable {X : Cx} {W : WX} {sc : Scope} {N : List Str} {Γ : List Sl}
theorem Cf0.gl (C : Cf0 X W sc N) {x : Str} (h : glB sc x = true) : Gl X x := by
  show X.env.scope.names.lookup x = _
  rw [C.hsc]
  exact gl_of h
theorem evp_of {e : Expr} {t : TE} {a : AV} (h : PE X e t) (k : ∀ σ H Q G, Sta X.K G H σ Γ → (∀ G' H' v, Ext G H G' H' → Sta X.K G' H' σ Γ → AVok X.K G' H' σ v a → Q v H') → t σ H Q) : EvP X W Γ e a :=
  pe_imp h fun σ H Q ⟨G, S, p⟩ => k σ H Q G S fun G' H' v e' S' a' => p G' H' e' v S' a'
theorem evp_var (C : Cf0 X W sc N) {i : Nat} {x : Str} {pos : Pos} {fr : Bool} {d : PyData} (hg : Γ[i]? = some (.dat fr d)) (hN : N[i]? = some x) (hv : visB sc x = true)
    (hd : (x == ("__debug__" : Str)) = false := by decide +kernel) (hcd : (x == ("__classdict__" : Str)) = false := by decide +kernel) : EvP X W Γ (.Name x pos) (.d fr d) := by
  refine evp_of (pe_var (i := i) (by rw [C.hN]; exact hN) (by rw [C.hsc]; exact vis_of hv) hd hcd) fun σ H Q G S k => ?_
  obtain ⟨A, T⟩ := id S
  obtain ⟨_, v, h1, h2⟩ := T.sl i _ hg
  exact ⟨v, h1, k G H v (Ext.rf S.w) S h2⟩
theorem evp_slot (C : Cf0 X W sc N) {i : Nat} {x : Str} {pos : Pos} {c : Cl} (hg : Γ[i]? = some (.own c) ∨ Γ[i]? = some (.io c) ∨ Γ[i]? = some (.lent c)) (hN : N[i]? = some x) (hv : visB sc x = true)
    (hd : (x == ("__debug__" : Str)) = false := by decide +kernel) (hcd : (x == ("__classdict__" : Str)) = false := by decide +kernel) : EvP X W Γ (.Name x pos) (.s i) := by
  refine evp_of (pe_var (i := i) (by rw [C.hN]; exact hN) (by rw [C.hsc]; exact vis_of hv) hd hcd) fun σ H Q G S k => ?_
  obtain ⟨A, T⟩ := id S
  have : ∃ v, σ[i]? = some (some v) := by
    rcases hg with hg | hg | hg
    · obtain ⟨v, h1, _⟩ := T.sl i _ hg
      exact ⟨v, h1⟩
    · obtain ⟨v, h1, _⟩ := T.sl i _ hg
      exact ⟨v, h1⟩
    · obtain ⟨_, p, o, h1, _⟩ := T.sl i _ hg
      exact ⟨_, h1⟩
  obtain ⟨v, h1⟩ := this
  exact ⟨v, h1, k G H v (Ext.rf S.w) S h1⟩
theorem evp_const {e : Expr} {v : V} {d : PyData} (h : PE X e (tC v)) (hd : ∀ K G H, Dn K G H v d) : EvP X W Γ e (.d true d) :=
  evp_of h fun σ H Q G S k => k G H v (Ext.rf S.w) S (hd _ _ _)
theorem evp_int {i : Int} {j : Nat} {pos : Pos} : EvP X W Γ (.Constant (.int i) j pos) (.d true (.int i)) := evp_const pe_int fun _ _ _ => .int i
theorem evp_bool {b : Bool} {j : Nat} {pos : Pos} : EvP X W Γ (.Constant (.bool b) j pos) (.d true (.bool b)) := evp_const pe_bl fun _ _ _ => .bl b
theorem evp_str {x : Str} {j : Nat} {pos : Pos} : EvP X W Γ (.Constant (.str x) j pos) (.d true (.str x)) := evp_const pe_str fun _ _ _ => .str x
theorem Ev.free {e : Expr} {τ : Type} {m : R τ} {fr fr' : Bool} {enc : τ → PyData} {Γ' : τ → List Sl} (h : Ev X W Γ e m (fun r => .d fr (enc r)) Γ') (hf : ∀ r, flat (enc r) = true) : Ev X W Γ e m (fun r => .d fr' (enc r)) Γ' :=
  pe_imp h fun σ H Q ⟨G, S, p⟩ => ⟨G, S, p.imp fun r G' H' _ k v S' a => k v S' (Dn.free a (hf r))⟩
theorem EvP.free {e : Expr} {fr fr' : Bool} {d : PyData} (h : EvP X W Γ e (.d fr d)) (hf : flat d = true) : EvP X W Γ e (.d fr' d) := Ev.free h fun _ => hf
theorem EvP.any {e : Expr} {fr : Bool} {d : PyData} (h : EvP X W Γ e (.d fr d)) : EvP X W Γ e (.d false d) :=
  pe_imp h fun σ H Q ⟨G, S, p⟩ => ⟨G, S, p.imp fun r G' H' _ k v S' a => k v S' (Dn.mono (rg_ff G' fr) (TupLe.rf _) a)⟩
theorem EvF.ev {e : Expr} {τ : Type} {m : R τ} {ds : τ → List PyData} {Γ' : τ → List Sl} (h : EvF X W Γ e m ds Γ') : Ev X W Γ e m (fun r => .d true (.list (ds r))) Γ' :=
  pe_imp h fun σ H Q ⟨G, S, p⟩ => ⟨G, S, p.impG fun r G' H' _ k p vs S' hp hd => by
    obtain ⟨S2, e2⟩ := S'.grow (grow_new (o := .lst vs) S'.w hp)
    exact k _ _ e2 _ S2 (.lst (.inl upd_same) (hd.mono e2.n e2.t))⟩
theorem bin_rd {α β γ : Type} {ma : R α} {ava : α → AV} {Γa : α → List Sl} {mb : α → R β} {avb : α → β → AV} {Γb : α → β → List Sl} {k : α → β → R γ} {avk : γ → AV} {Γk : γ → List Sl} {r : R2}
    (hk : ∀ x y G H σ u v Q, Sta X.K G H σ (Γb x y) → AVok X.K G H σ u (ava x) → AVok X.K G H σ v (avb x y) → Pst X W G H σ (k x y) (fun z G' H' => ∀ w, Sta X.K G' H' σ (Γk z) → AVok X.K G' H' σ w (avk z) → Q w H') → r u v H Q)
    {σ : St} {H : Hp} {Q : VK} (h : rdE X W Γ (ma.bind fun x => (mb x).bind fun y => k x y) avk Γk σ H Q) :
    tOp r (rdE X W Γ ma ava Γa) (fun σ H Q => ∃ x, rdE X W (Γa x) (mb x) (avb x) (Γb x) σ H Q) σ H Q := by
  obtain ⟨G, S, p⟩ := h
  refine ⟨G, S, (Pst.bind p).imp fun x G1 H1 e1 p1 u S1 a1 => ⟨x, G1, S1, (Pst.bind p1).imp fun y G2 H2 e2 p2 v S2 a2 => ?_⟩⟩
  exact hk x y G2 H2 σ u v Q S2 (a1.ext e2) a2 p2
variable {a b : Expr} {pos : Pos} {α β γ : Type} {ma : R α} {mb : α → R β} {Γa : α → List Sl} {Γb : α → β → List Sl} {Γk : γ → List Sl}
end
end PD
set_option Elab.async false
set_option linter.all false
set_option maxRecDepth 100000
set_option maxHeartbeats 4000000
set_option autoImplicit false
namespace PD
open PySem L2
theorem itT {P Q : Prop} (h : P) : if true = true then P else Q := by rw [if_pos rfl]; exact h
theorem itF {P Q : Prop} (h : Q) : if false = true then P else Q := by rw [if_neg (by simp)]; exact h
theorem R.bind_assoc {α β γ : Type} (m : R α) (f : α → R β) (g : β → R γ) : (m.bind f).bind g = m.bind fun a => (f a).bind g := by cases m <;> rfl
theorem R.bind_val {α : Type} (m : R α) : (m.bind fun a => .val a) = m := by cases m <;> rfl
def R.ofO {α : Type} : Option α → R α
  | some a => .val a
  | none => .bad
def R.req (b : Bool) : R Unit := if b then .val () else .bad
def cMul (i j : Int) : Bool := decide (i.natAbs.log2 + j.natAbs.log2 < 1000000)
def cDiv (_ j : Int) : Bool := decide (0 < j) && decide (j.natAbs.log2 < 9000)
def cMod (_ j : Int) : Bool := decide (0 < j)
def cShl (i j : Int) : Bool := decide (0 ≤ j) && decide ((Builtin.Int.intBits i : Int) + j ≤ 2 ^ 27)
def cShr (_ j : Int) : Bool := decide (0 ≤ j)
def cPow (i j : Int) : Bool := decide (0 ≤ j ∧ j ≤ 1000000 ∧ i.natAbs < 2 ^ 64)
theorem cMul_ok (i j : Int) (h : cMul i j = true) : CMulW i j := of_decide_eq_true (p := i.natAbs.log2 + j.natAbs.log2 < 1000000) h
theorem cDiv_ok (i j : Int) (h : cDiv i j = true) : CDivW i j := by
  unfold cDiv at h
  rw [Bool.and_eq_true] at h
  exact ⟨of_decide_eq_true h.1, of_decide_eq_true h.2⟩
theorem cMod_ok (i j : Int) (h : cMod i j = true) : 0 < j := of_decide_eq_true h
theorem cPow_ok (i j : Int) (h : cPow i j = true) : CPow i j := of_decide_eq_true (p := 0 ≤ j ∧ j ≤ 1000000 ∧ i.natAbs < 2 ^ 64) h
inductive Rdb (Γ : List Sl) : AV → PyData → Prop
  | d {fr : Bool} {z : PyData} : Rdb Γ (.d fr z) z
  | o {i : Nat} {es : List PyData} : Γ[i]? = some (.own (.lst es)) → Rdb Γ (.s i) (.list es)
  | i {i : Nat} {es : List PyData} : Γ[i]? = some (.io (.lst es)) → Rdb Γ (.s i) (.list es)
  | l {i : Nat} {es : List PyData} : Γ[i]? = some (.lent (.lst es)) → Rdb Γ (.s i) (.list es)
theorem atI_dn {K : PySem.W.Frag} {G : Rg} {H : Hp} {vs : List V} {ds : List PyData} {i : Int} {d : PyData} (h : DnA K G H vs ds) (e : atI ds i = some d) : ∃ v, atI vs i = some v ∧ Dn K G H v d := by
  unfold atI at e ⊢
  rw [h.length]
  cases q : ixN ds.length i with
  | none => rw [q] at e; cases e
  | some j =>
    rw [q] at e
    exact h.get' e
def szB {α : Type} (xs : List α) : Bool := decide (xs.length ≤ sizeLine)
def mkS (io : Bool) (c : Cl) : Sl := if io then .io c else .own c
theorem Sta.chg {K : PySem.W.Frag} {G : Gh} {H : Hp} {σ : St} {Γ : List Sl} {ds : List PyData} (s : Sta K G H σ Γ) (i : Nat) (io : Bool) (hi : Γ[i]? = some (mkS io (.lst ds))) :
    ∃ p vs, σ[i]? = some (some (.ref p)) ∧ H p = some (.lst vs) ∧ DnA K (rg G true) H vs ds ∧
      ∀ vs' ds', DnA K (rg G true) H vs' ds' → Sta K G (upd H p (.lst vs')) σ (Γ.set i (mkS io (.lst ds'))) ∧ Ext G H G (upd H p (.lst vs')) := by
  cases io with
  | true => exact s.changeIo i hi
  | false => exact s.change i hi
def ltS {α : Type} (xs : List α) : Bool := decide (xs.length < sizeLine)
section
variable {X : Cx} {W : WX} {sc : Scope} {N : List Str} {Γ : List Sl} {a b c : Expr} {pos : Pos}
theorem Ev.tst {e : Expr} {τ : Type} {m : R τ} {fr : Bool} {b : τ → Bool} {Γ1 : τ → List Sl} (h : Ev X W Γ e m (fun r => .d fr (.bool (b r))) Γ1) (he : ∀ whole, isTrue e X.env whole = (do let v ← whole; standAt e.pos; holding [v] (truthy v)) := by intro _; rfl) : EvT X W Γ e m b Γ1 :=
  pt_imp (pt_val h he) fun σ H Q ⟨G, S, p⟩ => ⟨G, S, Pst.imp p fun r G' H' _ k v S' a => ⟨b r, dn_bool a, k S'⟩⟩
theorem evt_notM {τ : Type} {m : R τ} {z : τ → Bool} {Γ1 : τ → List Sl} (ha : EvT X W Γ a m z Γ1) : EvT X W Γ (.UnaryOp .Not a pos) m (fun r => !z r) Γ1 :=
  pt_imp (pt_not ha) fun σ H Q ⟨G, S, p⟩ => ⟨G, S, p⟩
end
theorem Sta.lent {K : PySem.W.Frag} {G : Gh} {H : Hp} {σ : St} {Γ : List Sl} {i : Nat} {es : List PyData} {v : V} (S : Sta K G H σ Γ) (h : Γ[i]? = some (.own (.lst es)) ∨ Γ[i]? = some (.io (.lst es))) (hv : σ[i]? = some (some v)) : Dn K (RgH H) H v (.list es) := by
  rcases h with h | h
  · obtain ⟨p, vs, h1, h2, h3, _⟩ := S.change i h
    rw [hv] at h1
    cases h1
    exact .lst (.inl h2) (h3.mono (S.w.rgl true) (TupLe.rf _))
  · obtain ⟨p, vs, h1, h2, h3, _⟩ := S.changeIo i h
    rw [hv] at h1
    cases h1
    exact .lst (.inl h2) (h3.mono (S.w.rgl true) (TupLe.rf _))
theorem Sta.lentL {K : PySem.W.Frag} {G : Gh} {H : Hp} {σ : St} {Γ : List Sl} {i : Nat} {es : List PyData} (S : Sta K G H σ Γ) (h : Γ[i]? = some (.lent (.lst es))) : ∃ p vs, σ[i]? = some (some (.ref p)) ∧ H p = some (.lst vs) ∧ G.E p = some (.lst vs) ∧ DnA K (rg G true) H vs es := by
  obtain ⟨A, T⟩ := S
  obtain ⟨_, p, o, h1, h2, h3, h4, h5, q, vs, e, _, h6, h7⟩ := T.sl i _ h
  cases e
  rw [h3] at h6
  cases h6
  exact ⟨p, vs, h1, h3, h4, h7⟩
theorem Rdb.ok {K : PySem.W.Frag} {G : Gh} {H : Hp} {σ : St} {Γ : List Sl} {a : AV} {z : PyData} {v : V} (h : Rdb Γ a z) (S : Sta K G H σ Γ) (hv : AVok K G H σ v a) : Dn K (RgH H) H v z := by
  cases h with
  | d => exact S.w.dn hv
  | o hg => exact S.lent (.inl hg) hv
  | i hg => exact S.lent (.inr hg) hv
  | l hg =>
    obtain ⟨p, vs, h1, h2, _, h3⟩ := S.lentL hg
    have hv : σ[_]? = some (some v) := hv
    rw [h1] at hv
    cases hv
    exact .lst (.inl h2) (h3.mono (S.w.rgl true) (TupLe.rf _))
section
variable {X : Cx} {W : WX} {Γ : List Sl} {a b : Expr} {op : CmpOp} {pos : Pos}
theorem cmp_test {M : Model} {A : Around} {E : Value → Shared → Prop} {env : Env} {s : Shared} {l r : Expr} {op : CmpOp} {pos : Pos} {whole : Sem Value} {Q : Bool → Shared → Prop} (h : wpAny M A (eval (.Compare l [op] [r] pos) env) (fun c s' => wpAny M A (truthy c) Q E s') E s) (hm : behindInMarks op r = false) :
    wpAny M A (isTrue (.Compare l [op] [r] pos) env whole) Q E s := fun Γ p hΓ => by
  have q := h Γ p hΓ
  simp only [eval_Compare1, markedBehindIn_of_false hm, Sem.wp_bind', Sem.wp_holding, Sem.wp_cmd_standAt, Sem.wp_operate] at q
  simp only [isTrue_Compare1, markedBehindIn_of_false hm, Sem.wp_bind', Sem.wp_holding, Sem.wp_cmd_standAt, Sem.wp_operate]
  exact Sem.wp_mono M Γ _ (fun a p1 s1 h1 => Sem.wp_mono M Γ _ (fun b p2 s2 h2 => Sem.wp_mono M Γ _ (fun c p3 s3 h3 => h3 Γ p3 hΓ) (fun _ _ _ z => z) _ _ h2) (fun _ _ _ z => z) _ _ h1) (fun _ _ _ z => z) _ _ q
theorem pt_cmpV {X : Cx} {a b : Expr} {op : CmpOp} {pos : Pos} {t : TE} (h : PE X (.Compare a [op] [b] pos) t) (hm : behindInMarks op b = false) : PT X (.Compare a [op] [b] pos) (tB t) := by
  refine ⟨fun pins s σ H Q I hw => cmp_test (thn (h.run pins s σ H _ I hw) fun v s1 ⟨x, H1, I1, r1, q1⟩ => ?_) hm⟩
  obtain ⟨d, rfl, q⟩ := q1
  cases r1
  exact wpAny_truthy_bool ⟨H1, I1, q⟩
theorem Ev.tstC {τ : Type} {m : R τ} {fr : Bool} {z : τ → Bool} {Γ1 : τ → List Sl} (h : Ev X W Γ (.Compare a [op] [b] pos) m (fun r => .d fr (.bool (z r))) Γ1) (hm : behindInMarks op b = false := by first | exact nobehind _ (by decide) (by decide) | rfl) : EvT X W Γ (.Compare a [op] [b] pos) m z Γ1 :=
  pt_imp (pt_cmpV h hm) fun σ H Q ⟨G, S, p⟩ => ⟨G, S, Pst.imp p fun r G' H' _ k v S' a => ⟨z r, dn_bool a, k S'⟩⟩
end
theorem AVs.length {K : PySem.W.Frag} {G : Gh} {H : Hp} {σ : St} : ∀ {vs : List V} {as : List AV}, AVs K G H σ vs as → vs.length = as.length
  | _, _, .nil => rfl
  | _, _, .cons _ a => by simp [AVs.length a]
theorem Sta.newTup {K : PySem.W.Frag} {G : Gh} {H : Hp} {σ : St} {Γ : List Sl} {p : Addr} {vs : List V} {ds : List PyData} {fr : Bool} (S : Sta K G H σ Γ) (hp : H p = none) (hd : DnA K (rg G fr) H vs ds) :
    ∃ G', Sta K G' (upd H p (.tup vs)) σ Γ ∧ Ext G H G' (upd H p (.tup vs)) ∧ Dn K (rg G' fr) (upd H p (.tup vs)) (.ref p) (.tuple ds) := by
  obtain ⟨S', e⟩ := S.grow (grow_new (o := .tup vs) S.w hp)
  exact ⟨_, S', e, .tup upd_same (e.dna hd)⟩
theorem AVs.len {K : PySem.W.Frag} {G : Gh} {H : Hp} {σ : St} : ∀ {vs : List V} {as : List AV}, AVs K G H σ vs as → vs.length = as.length
  | _, _, .nil => rfl
  | _, _, .cons _ a => by simp [AVs.len a]
def max2 (i j : Int) : Int := if j > i then j else i
def min2 (i j : Int) : Int := if j < i then j else i
def pyTy : PyData → String
  | .none => "NoneType"
  | .bool _ => "bool"
  | .int _ => "int"
  | .str _ => "str"
  | .list _ => "list"
  | .tuple _ => "tuple"
  | .dict _ => "dict"
section
variable {X : Cx} {W : WX} {Γ : List Sl} {a b c : Expr} {rest : List Expr} {pos : Pos} {α β γ : Type} {ma : R α} {ba : α → Bool} {Γa : α → List Sl} {mb : α → R β} {bb : α → β → Bool} {Γb : α → β → List Sl} {Γk : γ → List Sl} {bk : γ → Bool}
def EvWM (X : Cx) (W : WX) (Γ : List Sl) (e : Expr) {τ : Type} (m : R τ) (b : τ → Bool) (Γ' : τ → List Sl) : Prop := PW X e (rdT X W Γ m b Γ')
theorem EvWM.t {e : Expr} (h : EvWM X W Γ e ma ba Γa) : EvT X W Γ e ma ba Γa := PW.pt h
theorem evw_orM1 (h : EvT X W Γ a ma ba Γa) : EvWM X W Γ (.BoolOp .Or [a] pos) ma ba Γa := pw_or1 h
theorem evw_orM (ha : EvT X W Γ a ma ba Γa) (hb : ∀ x, EvWM X W (Γa x) (.BoolOp .Or (b :: rest) pos) (mb x) (bb x) (Γb x)) (k1 : α → γ) (k2 : α → β → γ) (h1 : ∀ x, bk (k1 x) = true := by intros; rfl) (h2 : ∀ x, Γk (k1 x) = Γa x := by intros; rfl) (h3 : ∀ x y, bk (k2 x y) = bb x y := by intros; rfl) (h4 : ∀ x y, Γk (k2 x y) = Γb x y := by intros; rfl) :
    EvWM X W Γ (.BoolOp .Or (a :: b :: rest) pos) (ma.bind fun x => if ba x then .val (k1 x) else (mb x).bind fun y => .val (k2 x y)) bk Γk :=
  pw_imp (pw_or ha (pw_any hb)) fun σ H Q ⟨G, S, p⟩ => ⟨G, S, (Pst.bind p).imp fun x G1 H1 e1 p1 S1 => by
    cases hx : ba x with
    | true =>
      rw [if_pos hx] at p1
      have q := p1 G1 H1 (Ext.rf S1.w) (by rw [h2]; exact S1)
      rw [h1] at q
      exact itT q
    | false =>
      rw [if_neg (by rw [hx]; decide)] at p1
      exact itF ⟨x, G1, S1, (Pst.bind p1).imp fun y G2 H2 e2 p2 S2 => by
        have q := p2 G2 H2 (Ext.rf S2.w) (by rw [h4]; exact S2)
        rw [h3] at q
        exact q⟩⟩
variable {f1 f2 : Bool}
end
section
variable {X : Cx} {W : WX} {sc : Scope} {N : List Str} {Γ : List Sl}
theorem eva_nil : EvA X W Γ [] (R.val ()) (fun _ => []) (fun _ => Γ) :=
  pa_imp pa_nil fun σ H Q ⟨G, S, p⟩ => p G H (Ext.rf S.w) [] S .nil
theorem eva_cons {e : Expr} {es : List Expr} {α β γ : Type} {ma : R α} {ava : α → AV} {Γa : α → List Sl} {mb : α → R β} {asb : α → β → List AV} {Γb : α → β → List Sl} (kk : α → β → γ) {as : γ → List AV} {Γk : γ → List Sl}
    (ha : Ev X W Γ e ma ava Γa) (hb : ∀ x, EvA X W (Γa x) es (mb x) (asb x) (Γb x)) (h1 : ∀ x y, as (kk x y) = ava x :: asb x y := by intros; rfl) (h2 : ∀ x y, Γk (kk x y) = Γb x y := by intros; rfl)
    (hst : starEach (e :: es) X.env = (false, eval e X.env) :: starEach es X.env := by rfl) :
    EvA X W Γ (e :: es) (ma.bind fun x => (mb x).bind fun y => .val (kk x y)) as Γk := by
  refine pa_imp (pa_cons ha (pa_any hb) hst) fun σ H Q ⟨G, S, p⟩ => ?_
  refine ⟨G, S, (Pst.bind p).imp fun x G1 H1 e1 p1 v S1 a1 => ⟨x, G1, S1, (Pst.bind p1).imp fun y G2 H2 e2 p2 vs S2 a2 => ?_⟩⟩
  refine p2 G2 H2 (Ext.rf S2.w) (v :: vs) (by rw [h2]; exact S2) ?_
  rw [h1]
  exact .cons (a1.ext e2) a2
end
end PD
set_option Elab.async false
set_option linter.all false
set_option maxRecDepth 100000
set_option maxHeartbeats 4000000
set_option autoImplicit false
namespace PD
open PySem L2
abbrev DF := List Sl → R (AV × List Sl)
abbrev DA := List Sl → R (List AV × List Sl)
abbrev DT := List Sl → R (Bool × List Sl)
abbrev DN := List Sl → R (List PyData × List Sl)
section
variable (X : Cx) (W : WX)
def CE (e : Expr) (f : DF) : Prop := ∀ Γ, Ev X W Γ e (f Γ) Prod.fst Prod.snd
def CT (e : Expr) (f : DT) : Prop := ∀ Γ, EvT X W Γ e (f Γ) Prod.fst Prod.snd
def CW (e : Expr) (f : DT) : Prop := ∀ Γ, EvWM X W Γ e (f Γ) Prod.fst Prod.snd
def CN (e : Expr) (f : DN) : Prop := ∀ Γ, EvF X W Γ e (f Γ) Prod.fst Prod.snd
def CA (es : List Expr) (f : DA) : Prop := ∀ Γ, EvA X W Γ es (f Γ) Prod.fst Prod.snd
def Pk (G : Gh) (H : Hp) (σ : St) (m : R (AV × List Sl)) (Q : VK) : Prop := Pst X W G H σ m fun y G' H' => ∀ w, Sta X.K G' H' σ y.2 → AVok X.K G' H' σ w y.1 → Q w H'
end
section
variable {X : Cx} {W : WX} {sc : Scope} {N : List Str} {a b c e : Expr} {pos : Pos} {f g : DF}
theorem Pk.v {G : Gh} {H : Hp} {σ : St} {y : AV} {Γ : List Sl} {Q : VK} (h : Pk X W G H σ (.val (y, Γ)) Q) (S : Sta X.K G H σ Γ) {w : V} (hw : AVok X.K G H σ w y) : Q w H := h G H (Ext.rf S.w) w S hw
theorem Pk.v' {G G' : Gh} {H H' : Hp} {σ : St} {y : AV} {Γ : List Sl} {Q : VK} (h : Pk X W G H σ (.val (y, Γ)) Q) (e : Ext G H G' H') (S : Sta X.K G' H' σ Γ) {w : V} (hw : AVok X.K G' H' σ w y) : Q w H' := h G' H' e w S hw
theorem ev_bad {τ : Type} {Γ : List Sl} {av : τ → AV} {Γ' : τ → List Sl} (h : PE X e (fun _ _ _ => False) := ⟨fun _ _ _ _ _ _ z => z.elim⟩) : Ev X W Γ e (R.bad : R τ) av Γ' := pe_imp h fun σ H Q ⟨G, S, p⟩ => p
theorem evt_bad {τ : Type} {Γ : List Sl} {av : τ → Bool} {Γ' : τ → List Sl} (h : PT X e (fun _ _ _ => False) := ⟨fun _ _ _ _ _ _ z => z.elim⟩) : EvT X W Γ e (R.bad : R τ) av Γ' := pt_imp h fun σ H Q ⟨G, S, p⟩ => p
def dVar (i : Nat) : DF := fun Γ => match Γ[i]? with
  | some (.dat fr d) => .val (.d fr d, Γ)
  | some (.own _) => .val (.s i, Γ)
  | some (.io _) => .val (.s i, Γ)
  | some (.lent _) => .val (.s i, Γ)
  | _ => .bad
theorem ce_var (C : Cf0 X W sc N) (i : Nat) {x : Str} (hN : N[i]? = some x) (hv : visB sc x = true)
    (hd : (x == ("__debug__" : Str)) = false := by decide +kernel) (hcd : (x == ("__classdict__" : Str)) = false := by decide +kernel) : CE X W (.Name x pos) (dVar i) := fun Γ => by
  unfold dVar
  split
  · exact evp_var C ‹_› hN hv hd hcd
  · exact evp_slot C (.inl ‹_›) hN hv hd hcd
  · exact evp_slot C (.inr (.inl ‹_›)) hN hv hd hcd
  · exact evp_slot C (.inr (.inr ‹_›)) hN hv hd hcd
  · exact ev_bad
def dC (d : PyData) : DF := fun Γ => .val (.d true d, Γ)
theorem ce_int {i : Int} {j : Nat} : CE X W (.Constant (.int i) j pos) (dC (.int i)) := fun Γ => evp_int (W := W)
theorem ce_bool {i : Bool} {j : Nat} : CE X W (.Constant (.bool i) j pos) (dC (.bool i)) := fun Γ => evp_bool (W := W)
theorem ce_str {x : Str} {j : Nat} : CE X W (.Constant (.str x) j pos) (dC (.str x)) := fun Γ => evp_str (W := W)
theorem ce_op2 {op : Operator} {r : R2} (k : AV → AV → List Sl → R (AV × List Sl)) (ho : OpR X (binaryOp op) r) (ha : CE X W a f) (hb : CE X W b g)
    (hk : ∀ x y Γ2 G H σ u v Q, Sta X.K G H σ Γ2 → AVok X.K G H σ u x → AVok X.K G H σ v y → Pk X W G H σ (k x y Γ2) Q → r u v H Q) : CE X W (.BinOp a op b pos) (fun Γ => (f Γ).bind fun x => (g x.2).bind fun y => k x.1 y.1 y.2) := fun Γ =>
  pe_imp (pe_op ho (ha Γ) (pe_any fun x : AV × List Sl => hb x.2)) fun σ H Q h => bin_rd (X := X) (W := W) (ava := Prod.fst) (Γa := Prod.snd) (avb := fun _ (y : AV × List Sl) => y.1) (Γb := fun _ (y : AV × List Sl) => y.2) (avk := Prod.fst) (Γk := Prod.snd) (k := fun (x : AV × List Sl) (y : AV × List Sl) => k x.1 y.1 y.2) (fun x y G H σ u v Q S hu hv p => hk x.1 y.1 y.2 G H σ u v Q S hu hv p) h
def dI (k : Int → Int → R Int) (f g : DF) : DF := fun Γ => (f Γ).bind fun x => (g x.2).bind fun y => match x.1, y.1 with
  | .d _ (.int i), .d _ (.int j) => (k i j).bind fun n => .val (.d true (.int n), y.2)
  | _, _ => .bad
theorem ce_ii {op : Operator} {h : Int → Int → Int} {P : Int → Int → Prop} {k : Int → Int → R Int} (hk : ∀ i j, k i j = .bad ∨ (P i j ∧ k i j = .val (h i j))) (ho : OpR X (binaryOp op) (rI P fun i j => .int (h i j))) (ha : CE X W a f) (hb : CE X W b g) : CE X W (.BinOp a op b pos) (dI k f g) := by
  refine ce_op2 (fun x y Γ2 => match x, y with
    | .d _ (.int i), .d _ (.int j) => (k i j).bind fun n => .val (.d true (.int n), Γ2)
    | _, _ => .bad) ho ha hb fun x y Γ2 G H σ u v Q S hu hv p => ?_
  split at p
  · rename_i i _ j
    rcases hk i j with e | ⟨hP, e⟩
    · rw [e] at p; exact p.elim
    · rw [e] at p
      exact ⟨i, j, dn_int hu, dn_int hv, hP, Pk.v p S (.int _)⟩
  · exact p.elim
theorem opI_of {F : Value → Value → Sem Value} {h : Int → Int → V} (ho : OpR X F (rI0 h)) : OpR X F (rI (fun _ _ => True) h) := fun pins s σ H x y v u Q I rx ry ⟨i, j, e1, e2, _, q⟩ => ho pins s σ H x y v u Q I rx ry ⟨i, j, e1, e2, q⟩
theorem opR_or {F : Value → Value → Sem Value} {r1 r2 : R2} (h1 : OpR X F r1) (h2 : OpR X F r2) : OpR X F (fun u v H Q => r1 u v H Q ∨ r2 u v H Q) := fun pins s σ H x y v u Q I rx ry z => z.elim (h1 pins s σ H x y v u Q I rx ry) (h2 pins s σ H x y v u Q I rx ry)
def gq {α : Type} (c : Bool) (a : α) : R α := (R.req c).bind fun _ => .val a
theorem gq_cases {α : Type} (c : Bool) (a : α) : gq c a = .bad ∨ (c = true ∧ gq c a = .val a) := by
  cases c
  · exact .inl rfl
  · exact .inr ⟨rfl, rfl⟩
def cMulX (i j : Int) : Bool := decide (i.natAbs < 2 ^ 64) || decide (j.natAbs < 2 ^ 64) || cMul i j
theorem op_mulG : OpR X (binaryOp .Mult) (rI (fun i j => cMulX i j = true) fun i j => .int (i * j)) := fun pins s σ H x y v u Q I rx ry ⟨i, j, e1, e2, c, q⟩ => by
  have c : cMulX i j = true := c
  unfold cMulX at c
  rw [Bool.or_eq_true, Bool.or_eq_true] at c
  rcases c with (c | c) | c
  · have c := of_decide_eq_true c
    exact op_mul pins s σ H x y v u Q I rx ry ⟨i, j, e1, e2, .inl (by omega), q⟩
  · have c := of_decide_eq_true c
    exact op_mul pins s σ H x y v u Q I rx ry ⟨i, j, e1, e2, .inr (by omega), q⟩
  · exact op_mulW pins s σ H x y v u Q I rx ry ⟨i, j, e1, e2, cMul_ok i j c, q⟩
abbrev kSub (i j : Int) : R Int := .val (i - j)
abbrev kAnd (i j : Int) : R Int := .val (Builtin.bitAnd i j)
abbrev kOr (i j : Int) : R Int := .val (Builtin.bitOr i j)
abbrev kMul (i j : Int) : R Int := gq (cMulX i j) (i * j)
abbrev kDiv (i j : Int) : R Int := gq (cDiv i j) (i / j)
abbrev kMod (i j : Int) : R Int := gq (cMod i j) (i % j)
abbrev kPow (i j : Int) : R Int := gq (cPow i j) (i ^ j.toNat)
abbrev kShl (i j : Int) : R Int := gq (cShl i j) (i * 2 ^ j.toNat)
abbrev kShr (i j : Int) : R Int := gq (cShr i j) (i / 2 ^ j.toNat)
theorem ce_sub (ha : CE X W a f) (hb : CE X W b g) : CE X W (.BinOp a .Sub b pos) (dI kSub f g) := ce_ii (fun i j => .inr ⟨trivial, rfl⟩) (opI_of op_sub) ha hb
theorem ce_mul (ha : CE X W a f) (hb : CE X W b g) : CE X W (.BinOp a .Mult b pos) (dI kMul f g) := ce_ii (fun i j => gq_cases _ _) op_mulG ha hb
theorem gqP {P : Int → Int → Prop} {c : Int → Int → Bool} (h : ∀ i j, c i j = true → P i j) (k : Int → Int → Int) (i j : Int) : gq (c i j) (k i j) = .bad ∨ (P i j ∧ gq (c i j) (k i j) = .val (k i j)) := (gq_cases _ _).imp id fun z => ⟨h i j z.1, z.2⟩
theorem ce_fdiv (ha : CE X W a f) (hb : CE X W b g) : CE X W (.BinOp a .FloorDiv b pos) (dI kDiv f g) := ce_ii (gqP cDiv_ok fun i j => i / j) op_fdivW ha hb
theorem ce_mod (ha : CE X W a f) (hb : CE X W b g) : CE X W (.BinOp a .Mod b pos) (dI kMod f g) := ce_ii (gqP cMod_ok fun i j => i % j) op_mod ha hb
theorem ce_pow (ha : CE X W a f) (hb : CE X W b g) : CE X W (.BinOp a .Pow b pos) (dI kPow f g) := ce_ii (gqP cPow_ok fun i j => i ^ j.toNat) op_pow ha hb
def rdD (Γ : List Sl) : AV → Option PyData
  | .d _ x => some x
  | .s i => match Γ[i]? with
    | some (.own (.lst es)) => some (.list es)
    | some (.io (.lst es)) => some (.list es)
    | some (.lent (.lst es)) => some (.list es)
    | _ => none
theorem rdD_ok {Γ : List Sl} {y : AV} {x : PyData} (h : rdD Γ y = some x) : Rdb Γ y x := by
  cases y with
  | d fr z => cases h; exact .d
  | s i =>
    unfold rdD at h
    simp only at h
    split at h
    · cases h; exact .o ‹_›
    · cases h; exact .i ‹_›
    · cases h; exact .l ‹_›
    · cases h
def addA : AV → AV → R AV
  | .d _ (.int i), .d _ (.int j) => .val (.d true (.int (i + j)))
  | .d f1 (.tuple xs), .d f2 (.tuple ys) => gq (szB (xs ++ ys)) (.d (f1 && f2) (.tuple (xs ++ ys)))
  | .d _ (.str x), .d _ (.str y) => gq (decide (x.length + y.length ≤ sizeLine)) (.d true (.str (x ++ y)))
  | _, _ => .bad
def dAdd (f g : DF) : DF := fun Γ => (f Γ).bind fun x => (g x.2).bind fun y => (addA x.1 y.1).bind fun z => .val (z, y.2)
theorem rg_and1 (G : Gh) (f1 f2 : Bool) : RgLe (rg G f1) (rg G (f1 && f2)) := by
  cases f1 <;> cases f2
  · exact fun _ _ h => h
  · exact fun _ _ h => h
  · exact rg_ff G true
  · exact fun _ _ h => h
theorem rg_and2 (G : Gh) (f1 f2 : Bool) : RgLe (rg G f2) (rg G (f1 && f2)) := by
  rw [Bool.and_comm]
  exact rg_and1 G f2 f1
theorem ce_add (ha : CE X W a f) (hb : CE X W b g) : CE X W (.BinOp a .Add b pos) (dAdd f g) := by
  refine ce_op2 (fun x y Γ2 => (addA x y).bind fun z => .val (z, Γ2)) (opR_or op_add (opR_or op_catA op_add_str)) ha hb fun x y Γ2 G H σ u v Q S hu hv p => ?_
  unfold addA at p
  split at p
  · rename_i i _ j
    exact .inl ⟨i, j, dn_int hu, dn_int hv, Pk.v p S (.int _)⟩
  · rename_i f1 xs f2 ys
    rcases gq_cases (szB (xs ++ ys)) (AV.d (f1 && f2) (.tuple (xs ++ ys))) with e | ⟨hc, e⟩
    · rw [e] at p; exact p.elim
    · rw [e] at p
      have hc := of_decide_eq_true hc
      obtain ⟨q1, vs, rfl, g1, g2⟩ := dn_tupleH hu
      obtain ⟨q2, ws, rfl, g3, g4⟩ := dn_tupleH hv
      have d1 := g2.mono (rg_and1 G f1 f2) (TupLe.rf H)
      have d2 := g4.mono (rg_and2 G f1 f2) (TupLe.rf H)
      refine .inr (.inl ⟨q1, q2, vs, ws, rfl, rfl, SqT.of g1, SqT.of g3, by rw [g2.length, g4.length]; simpa using hc, fun e1 => ?_, fun _ e2 => ?_, fun _ _ l hl => ?_⟩)
      · subst e1
        cases d1
        exact Pk.v p S (.tup g3 d2)
      · subst e2
        cases d2
        refine Pk.v p S ?_
        rw [List.append_nil]
        exact .tup g1 d1
      · obtain ⟨G2, S2, e2, h2⟩ := S.newTup hl (d1.append d2)
        exact Pk.v' p e2 S2 h2
  · rename_i x _ y
    rcases gq_cases (decide (x.length + y.length ≤ sizeLine)) (AV.d true (.str (x ++ y))) with e | ⟨hc, e⟩
    · rw [e] at p; exact p.elim
    · rw [e] at p
      exact .inr (.inr ⟨x, y, dn_str hu, dn_str hv, of_decide_eq_true hc, Pk.v p S (.str _)⟩)
  · exact p.elim
def dNeg (f : DF) : DF := fun Γ => (f Γ).bind fun x => match x.1 with
  | .d _ (.int i) => .val (.d true (.int (-i)), x.2)
  | _ => .bad
end
section
variable {X : Cx} {W : WX} {sc : Scope} {N : List Str} {a b c e : Expr} {pos : Pos} {f g : DF}
theorem Ev.exc {Γ : List Sl} {τ τ' : Type} {x : Exn} {av : τ → AV} {Γ' : τ → List Sl} {av2 : τ' → AV} {Γ2 : τ' → List Sl} (h : Ev X W Γ e (.exc x : R τ) av Γ') : Ev X W Γ e (.exc x : R τ') av2 Γ2 := pe_imp h fun σ H Q ⟨G, S, p⟩ => ⟨G, S, p⟩
theorem Ev.map {Γ : List Sl} {τ τ' : Type} {m : R τ} {k : τ → τ'} {av : τ' → AV} {Γ' : τ' → List Sl} (h : Ev X W Γ e m (fun r => av (k r)) (fun r => Γ' (k r))) : Ev X W Γ e (m.bind fun r => .val (k r)) av Γ' :=
  pe_imp h fun σ H Q ⟨G, S, p⟩ => ⟨G, S, by cases m <;> exact p⟩
theorem ce_cmp2 {op : CmpOp} {r : R2} (k : AV → AV → List Sl → R (AV × List Sl)) (ho : OpR X (compareOp op) r) (hm : behindInMarks op b = false) (ha : CE X W a f) (hb : CE X W b g)
    (hk : ∀ x y Γ2 G H σ u v Q, Sta X.K G H σ Γ2 → AVok X.K G H σ u x → AVok X.K G H σ v y → Pk X W G H σ (k x y Γ2) Q → r u v H Q) : CE X W (.Compare a [op] [b] pos) (fun Γ => (f Γ).bind fun x => (g x.2).bind fun y => k x.1 y.1 y.2) := fun Γ =>
  pe_imp (pe_cmpR ho (ha Γ) (pe_any fun x : AV × List Sl => hb x.2) hm) fun σ H Q h => bin_rd (X := X) (W := W) (ava := Prod.fst) (Γa := Prod.snd) (avb := fun _ (y : AV × List Sl) => y.1) (Γb := fun _ (y : AV × List Sl) => y.2) (avk := Prod.fst) (Γk := Prod.snd) (k := fun (x : AV × List Sl) (y : AV × List Sl) => k x.1 y.1 y.2) (fun x y G H σ u v Q S hu hv p => hk x.1 y.1 y.2 G H σ u v Q S hu hv p) h
def boolR (m : R Bool) (Γ : List Sl) : R (AV × List Sl) := m.bind fun b => .val (.d true (.bool b), Γ)
def dCmp (k : List Sl → AV → AV → R Bool) (f g : DF) : DF := fun Γ => (f Γ).bind fun x => (g x.2).bind fun y => boolR (k y.2 x.1 y.1) y.2
def kEq (Γ : List Sl) (x y : AV) : R Bool := match rdD Γ x, rdD Γ y with
  | some p, some q => gq (SeqAt.shaped p && SeqAt.shaped q) (PyData.eqv p q)
  | _, _ => .bad
def kNe (Γ : List Sl) (x y : AV) : R Bool := (kEq Γ x y).bind fun z => .val (!z)
theorem kEq_val {Γ : List Sl} {x y : AV} : (∃ p q, rdD Γ x = some p ∧ rdD Γ y = some q ∧ SeqAt.shaped p = true ∧ SeqAt.shaped q = true ∧ kEq Γ x y = .val (PyData.eqv p q)) ∨ kEq Γ x y = .bad := by
  unfold kEq
  split
  · rename_i p q h1 h2
    rcases gq_cases (SeqAt.shaped p && SeqAt.shaped q) (PyData.eqv p q) with e | ⟨hc, e⟩
    · exact .inr e
    · rw [Bool.and_eq_true] at hc
      exact .inl ⟨p, q, h1, h2, hc.1, hc.2, e⟩
  · exact .inr rfl
theorem ce_eq (C : Cf0 X W sc N) (ha : CE X W a f) (hb : CE X W b g) (hm : behindInMarks .Eq b = false := by first | exact nobehind _ (by decide) (by decide) | rfl) : CE X W (.Compare a [.Eq] [b] pos) (dCmp kEq f g) :=
  ce_cmp2 (fun x y Γ2 => boolR (kEq Γ2 x y) Γ2) (op_eqD C.hu) hm ha hb fun x y Γ2 G H σ u v Q S hu hv p => by
    rcases kEq_val (Γ := Γ2) (x := x) (y := y) with ⟨d, z, h1, h2, s1, s2, e⟩ | e
    · rw [e] at p
      exact ⟨d, z, ((rdD_ok h1).ok S hu).dps s1, ((rdD_ok h2).ok S hv).dps s2, s1, s2, Pk.v p S (.bl _)⟩
    · rw [e] at p; exact p.elim
theorem ce_ne (C : Cf0 X W sc N) (ha : CE X W a f) (hb : CE X W b g) (hm : behindInMarks .NotEq b = false := by first | exact nobehind _ (by decide) (by decide) | rfl) : CE X W (.Compare a [.NotEq] [b] pos) (dCmp kNe f g) :=
  ce_cmp2 (fun x y Γ2 => boolR (kNe Γ2 x y) Γ2) (op_neD C.hu) hm ha hb fun x y Γ2 G H σ u v Q S hu hv p => by
    unfold kNe at p
    rcases kEq_val (Γ := Γ2) (x := x) (y := y) with ⟨d, z, h1, h2, s1, s2, e⟩ | e
    · rw [e] at p
      exact ⟨d, z, ((rdD_ok h1).ok S hu).dps s1, ((rdD_ok h2).ok S hv).dps s2, s1, s2, Pk.v p S (.bl _)⟩
    · rw [e] at p; exact p.elim
def kI (h : Int → Int → Bool) (_ : List Sl) : AV → AV → R Bool
  | .d _ (.int i), .d _ (.int j) => .val (h i j)
  | _, _ => .bad
theorem ce_cmpI {op : CmpOp} {h : Int → Int → Bool} (ho : OpR X (compareOp op) (rI0 fun i j => .bl (h i j))) (ha : CE X W a f) (hb : CE X W b g) (hm : behindInMarks op b = false) : CE X W (.Compare a [op] [b] pos) (dCmp (kI h) f g) :=
  ce_cmp2 (fun x y Γ2 => boolR (kI h Γ2 x y) Γ2) ho hm ha hb fun x y Γ2 G H σ u v Q S hu hv p => by
    unfold kI at p
    split at p
    · rename_i i _ j
      exact ⟨i, j, dn_int hu, dn_int hv, Pk.v p S (.bl _)⟩
    · exact p.elim
theorem ce_lt (ha : CE X W a f) (hb : CE X W b g) (hm : behindInMarks .Lt b = false := by first | exact nobehind _ (by decide) (by decide) | rfl) : CE X W (.Compare a [.Lt] [b] pos) (dCmp (kI fun i j => decide (i < j)) f g) := ce_cmpI op_lt ha hb hm
theorem ce_gt (ha : CE X W a f) (hb : CE X W b g) (hm : behindInMarks .Gt b = false := by first | exact nobehind _ (by decide) (by decide) | rfl) : CE X W (.Compare a [.Gt] [b] pos) (dCmp (kI fun i j => decide (j < i)) f g) := ce_cmpI op_gt ha hb hm
theorem ce_ge (ha : CE X W a f) (hb : CE X W b g) (hm : behindInMarks .GtE b = false := by first | exact nobehind _ (by decide) (by decide) | rfl) : CE X W (.Compare a [.GtE] [b] pos) (dCmp (kI fun i j => decide (j ≤ i)) f g) := ce_cmpI op_ge ha hb hm
def isN : PyData → Bool
  | .none => true
  | _ => false
def flD : PyData → Bool
  | .none => true
  | .bool _ => true
  | .int _ => true
  | .str _ => true
  | _ => false
def kIn (Γ : List Sl) (x y : AV) : R Bool := match rdD Γ x, rdD Γ y with
  | some d, some (.list ds) => gq (SeqAt.shaped d && SeqAt.shaped (.list ds)) (ds.any fun z => PyData.eqv z d)
  | some d, some (.tuple ds) => gq (flD d && ds.all flD) (ds.any fun z => PyData.eqv z d)
  | _, _ => .bad
def asB : AV × List Sl → R (Bool × List Sl)
  | (.d _ (.bool z), Γ) => .val (z, Γ)
  | _ => .bad
def dTst (f : DF) : DT := fun Γ => (f Γ).bind asB
theorem ct_lift {f : DF} (ha : CE X W e f) (h1 : ∀ Γ (z : Bool) (fr : Bool) (Γ1 : List Sl), Ev X W Γ e (R.val ()) (fun _ => .d fr (.bool z)) (fun _ => Γ1) → EvT X W Γ e (R.val ()) (fun _ => z) (fun _ => Γ1))
    (h2 : ∀ Γ x, Ev X W Γ e (.exc x : R Unit) (fun _ => .d true (.bool true)) (fun _ => Γ) → EvT X W Γ e (.exc x : R Unit) (fun _ => true) (fun _ => Γ)) : CT X W e (dTst f) := fun Γ => by
  have h := ha Γ
  unfold dTst
  cases hf : f Γ with
  | bad => exact evt_bad
  | exc x =>
    rw [hf] at h
    exact pt_imp (h2 Γ x (Ev.exc h)) fun σ H Q ⟨G, S, p⟩ => ⟨G, S, p⟩
  | val z =>
    rw [hf] at h
    obtain ⟨y, Γ1⟩ := z
    show EvT X W Γ e (asB (y, Γ1)) _ _
    unfold asB
    split
    · rename_i hz
      cases hz
      exact h1 Γ _ _ _ h
    · exact evt_bad
theorem ct_of (ha : CE X W e f) (he : ∀ whole, isTrue e X.env whole = (do let v ← whole; standAt e.pos; holding [v] (truthy v)) := by intro _; rfl) : CT X W e (dTst f) := ct_lift ha (fun Γ z fr Γ1 h => Ev.tst h he) (fun Γ x h => Ev.tst h he)
theorem ct_cmp {op : CmpOp} (ha : CE X W (.Compare a [op] [b] pos) f) (hm : behindInMarks op b = false := by first | exact nobehind _ (by decide) (by decide) | rfl) : CT X W (.Compare a [op] [b] pos) (dTst f) := ct_lift ha (fun Γ z fr Γ1 h => Ev.tstC h hm) (fun Γ x h => Ev.tstC h hm)
def dTnot (f : DT) : DT := fun Γ => (f Γ).bind fun z => .val (!z.1, z.2)
theorem EvT.map {Γ : List Sl} {τ τ' : Type} {m : R τ} {k : τ → τ'} {av : τ' → Bool} {Γ' : τ' → List Sl} (h : EvT X W Γ e m (fun r => av (k r)) (fun r => Γ' (k r))) : EvT X W Γ e (m.bind fun r => .val (k r)) av Γ' :=
  pt_imp h fun σ H Q ⟨G, S, p⟩ => ⟨G, S, by cases m <;> exact p⟩
theorem ct_not {f : DT} (ha : CT X W a f) : CT X W (.UnaryOp .Not a pos) (dTnot f) := fun Γ => EvT.map (evt_notM (ha Γ))
theorem ct_w {f : DT} (h : CW X W e f) : CT X W e f := fun Γ => (h Γ).t
variable {rest : List Expr}
theorem cw_or1 {f : DT} (h : CT X W a f) : CW X W (.BoolOp .Or [a] pos) f := fun Γ => evw_orM1 (h Γ)
def dTor (f g : DT) : DT := fun Γ => (f Γ).bind fun x => if x.1 then .val (true, x.2) else (g x.2).bind fun y => .val y
def dTand (f g : DT) : DT := fun Γ => (f Γ).bind fun x => if x.1 then (g x.2).bind fun y => .val y else .val (false, x.2)
theorem cw_or {f g : DT} (ha : CT X W a f) (hb : CW X W (.BoolOp .Or (b :: rest) pos) g) : CW X W (.BoolOp .Or (a :: b :: rest) pos) (dTor f g) := fun Γ => evw_orM (ha Γ) (fun x => hb x.2) (fun x => (true, x.2)) (fun _ y => y)
end
section
variable {X : Cx} {W : WX} {sc : Scope} {N : List Str} {a b c e : Expr} {es : List Expr} {pos p : Pos} {f g : DF} {k : DA}
variable {rest : List Expr}
def dAnd (f g : DF) : DF := fun Γ => (f Γ).bind fun x => (asB x).bind fun u => if u.1 then (g u.2).bind fun y => (asB y).bind fun z => .val (.d true (.bool z.1), z.2) else .val (.d true (.bool false), u.2)
def dOr (f g : DF) : DF := fun Γ => (f Γ).bind fun x => (asB x).bind fun u => if u.1 then .val (.d true (.bool true), u.2) else (g u.2).bind fun y => (asB y).bind fun z => .val (.d true (.bool z.1), z.2)
def dNot (f : DF) : DF := fun Γ => (f Γ).bind fun x => (asB x).bind fun u => .val (.d true (.bool (!u.1)), u.2)
def dA0 : DA := fun Γ => .val ([], Γ)
def dAc (f : DF) (k : DA) : DA := fun Γ => (f Γ).bind fun x => (k x.2).bind fun y => .val (x.1 :: y.1, y.2)
theorem ca_nil : CA X W [] dA0 := fun Γ => eva_nil (W := W)
theorem ca_cons (ha : CE X W e f) (hb : CA X W es k) (hst : starEach (e :: es) X.env = (false, eval e X.env) :: starEach es X.env := by rfl) : CA X W (e :: es) (dAc f k) := fun Γ => eva_cons (as := Prod.fst) (Γk := Prod.snd) (fun (x : AV × List Sl) (y : List AV × List Sl) => (x.1 :: y.1, y.2)) (ha Γ) (fun x => hb x.2) (fun _ _ => rfl) (fun _ _ => rfl) hst
def frzA : AV × List Sl → R (AV × List Sl)
  | (.d true d, Γ) => .val (.d true d, Γ)
  | (.d false d, Γ) => .val (.d (flat d) d, Γ)
  | (.s i, Γ) => match Γ[i]? with
    | some (.own (.lst es)) => .val (.d true (.list es), Γ.set i (.dat true (.list es)))
    | _ => .bad
def dFrz (f : DF) : DF := fun Γ => (f Γ).bind frzA
theorem Pk.ext {G G' : Gh} {H H' : Hp} {σ : St} {m : R (AV × List Sl)} {Q : VK} (h : Pk X W G H σ m Q) (e : Ext G H G' H') : Pk X W G' H' σ m Q := Pst.ext h e
theorem frz_ok {G : Gh} {H : Hp} {σ : St} {x : AV} {Γ : List Sl} {v : V} {Q : VK} (S : Sta X.K G H σ Γ) (hv : AVok X.K G H σ v x) (p : Pk X W G H σ (frzA (x, Γ)) Q) : Q v H := by
  unfold frzA at p
  split at p
  · rename_i hz; cases hz; exact Pk.v p S hv
  · rename_i d Γ2 hz
    cases hz
    refine Pk.v p S ?_
    cases hf : flat d with
    | false => exact hv
    | true => exact Dn.free hv hf
  · rename_i i Γ2 hz
    cases hz
    split at p
    · rename_i ds hi
      obtain ⟨A, T⟩ := id S
      obtain ⟨G2, S2, e2⟩ := S.freeze i hi
      have h2 : (Γ.set i (.dat true (.list ds)))[i]? = some (.dat true (.list ds)) := set_at (List.getElem?_eq_some_iff.mp hi).1
      obtain ⟨A2, T2⟩ := id S2
      obtain ⟨_, w, g1, g2⟩ := T2.sl i _ h2
      have hv : σ[i]? = some (some v) := hv
      rw [hv] at g1
      cases g1
      exact Pk.v' p e2 S2 g2
    · exact p.elim
theorem ce_frz (ha : CE X W e f) : CE X W e (dFrz f) := fun Γ =>
  pe_imp (ha Γ) fun σ H Q ⟨G, S, q⟩ => ⟨G, S, (Pst.bind q).imp fun x G1 H1 e1 p1 v S1 hv => frz_ok (x := x.1) (Γ := x.2) S1 hv p1⟩
def avD : AV → Option PyData
  | .d true d => some d
  | _ => none
def allT : List AV → Option (List PyData)
  | [] => some []
  | .d true d :: as => (allT as).map (d :: ·)
  | _ => none
def allF : List AV → Option (List PyData × Bool)
  | [] => some ([], true)
  | .d fr d :: as => (allF as).map fun z => (d :: z.1, fr && z.2)
  | _ => none
theorem allT_ok {K : PySem.W.Frag} {G : Gh} {H : Hp} {σ : St} : ∀ {as : List AV} {ds : List PyData} {vs : List V}, allT as = some ds → AVs K G H σ vs as → DnA K (rg G true) H vs ds
  | [], _, _, h, .nil => by cases h; exact .nil
  | .d true d :: as, ds, _, h, .cons q r => by
    unfold allT at h
    cases e : allT as with
    | none => rw [e] at h; cases h
    | some xs => rw [e] at h; cases h; exact .cons q (allT_ok e r)
  | .d false d :: as, ds, _, h, _ => by cases h
  | .s i :: as, ds, _, h, _ => by cases h
theorem allF_ok {K : PySem.W.Frag} {G : Gh} {H : Hp} {σ : St} : ∀ {as : List AV} {z : List PyData × Bool} {vs : List V}, allF as = some z → AVs K G H σ vs as → DnA K (rg G z.2) H vs z.1
  | [], _, _, h, .nil => by cases h; exact .nil
  | .d fr d :: as, ds, _, h, .cons q r => by
    unfold allF at h
    cases e : allF as with
    | none => rw [e] at h; cases h
    | some xs =>
      rw [e] at h
      cases h
      exact .cons (Dn.mono (rg_and1 G fr xs.2) (TupLe.rf _) q) ((allF_ok e r).mono (rg_and2 G fr xs.2) (TupLe.rf _))
  | .s i :: as, ds, _, h, _ => by cases h
def dLst (k : DA) : DN := fun Γ => (k Γ).bind fun z => match allT z.1 with
  | some ds => gq (szB z.1) (ds, z.2)
  | none => .bad
theorem cn_lst (ha : CA X W es k) : CN X W (.List es pos) (dLst k) := fun Γ =>
  pe_imp (pe_lst (ha Γ)) fun σ H Q ⟨G, S, q⟩ => ⟨G, S, (Pst.bind q).imp fun x G1 H1 e1 p1 vs S1 av => by
    split at p1
    · rename_i ds hd
      rcases gq_cases (szB x.1) (ds, x.2) with e | ⟨hc, e⟩
      · rw [e] at p1; exact p1.elim
      · rw [e] at p1
        exact ⟨by rw [av.len]; exact of_decide_eq_true hc, fun q hq => p1 G1 H1 (Ext.rf S1.w) q vs S1 hq (allT_ok hd av)⟩
    · exact p1.elim⟩
def dTup (k : DA) : DF := fun Γ => (k Γ).bind fun z => match allF z.1 with
  | some ds => gq (szB z.1) (.d ds.2 (.tuple ds.1), z.2)
  | none => .bad
theorem ce_tup {kk : Nat} (ha : CA X W es k) : CE X W (.Tuple es kk pos) (dTup k) := fun Γ =>
  pe_imp (pe_tup (ha Γ)) fun σ H Q ⟨G, S, q⟩ => ⟨G, S, (Pst.bind q).imp fun x G1 H1 e1 p1 vs S1 av => by
    split at p1
    · rename_i ds hd
      rcases gq_cases (szB x.1) (AV.d ds.2 (.tuple ds.1), x.2) with e | ⟨hc, e⟩
      · rw [e] at p1; exact p1.elim
      · rw [e] at p1
        refine ⟨by rw [av.len]; exact of_decide_eq_true hc, fun q hq => ?_⟩
        obtain ⟨G2, S2, e2, h2⟩ := S1.newTup hq (allF_ok hd av)
        exact p1 G2 _ e2 _ S2 h2
    · exact p1.elim⟩
def dOfN (n : DN) : DF := fun Γ => (n Γ).bind fun z => .val (.d true (.list z.1), z.2)
theorem ce_ofN {n : DN} (h : CN X W e n) : CE X W e (dOfN n) := fun Γ => Ev.map (k := fun z : List PyData × List Sl => (AV.d true (.list z.1), z.2)) (EvF.ev (h Γ))
def ixA (Γ : List Sl) (x y : AV) : R AV := match x, y with
  | .d fr (.list ds), .d _ (.int i) => (R.ofO (atI ds i)).bind fun d => .val (.d fr d)
  | .d fr (.tuple ds), .d _ (.int i) => (R.ofO (atI ds i)).bind fun d => .val (.d fr d)
  | .s j, .d _ (.int i) => match rdD Γ (.s j) with
    | some (.list ds) => (R.ofO (atI ds i)).bind fun d => .val (.d true d)
    | _ => .bad
  | _, _ => .bad
theorem Sta.slotL {K : PySem.W.Frag} {G : Gh} {H : Hp} {σ : St} {Γ : List Sl} {j : Nat} {ds : List PyData} {u : V} (S : Sta K G H σ Γ) (h : rdD Γ (.s j) = some (.list ds)) (hu : σ[j]? = some (some u)) : ∃ p vs, u = .ref p ∧ H p = some (.lst vs) ∧ DnA K (rg G true) H vs ds := by
  have hg : Γ[j]? = some (.own (.lst ds)) ∨ Γ[j]? = some (.io (.lst ds)) ∨ Γ[j]? = some (.lent (.lst ds)) := by
    unfold rdD at h
    simp only at h
    split at h
    · cases h; exact .inl ‹_›
    · cases h; exact .inr (.inl ‹_›)
    · cases h; exact .inr (.inr ‹_›)
    · cases h
  have : ∃ p vs, σ[j]? = some (some (.ref p)) ∧ H p = some (.lst vs) ∧ DnA K (rg G true) H vs ds := by
    rcases hg with hg | hg | hg
    · obtain ⟨p, vs, q1, q2, q3, _⟩ := S.change j hg
      exact ⟨p, vs, q1, q2, q3⟩
    · obtain ⟨p, vs, q1, q2, q3, _⟩ := S.changeIo j hg
      exact ⟨p, vs, q1, q2, q3⟩
    · obtain ⟨p, vs, q1, q2, _, q3⟩ := S.lentL hg
      exact ⟨p, vs, q1, q2, q3⟩
  obtain ⟨p, vs, q1, q2, q3⟩ := this
  rw [q1] at hu
  cases hu
  exact ⟨p, vs, rfl, q2, q3⟩
end
end PD
set_option Elab.async false
set_option linter.all false
set_option maxRecDepth 100000
set_option maxHeartbeats 4000000
set_option autoImplicit false
namespace PD
open PySem L2
def NewC (K : PySem.W.Frag) (G : Rg) (H : Hp) (c : Cl) (v : V) (H' : Hp) : Prop := ∃ fp : List Addr, (∀ a, a ∉ fp → H' a = H a) ∧ (∀ p ∈ fp, H p = none ∧ H' p ≠ none) ∧ c.ok K G H' v fp
theorem newc_lst {K : PySem.W.Frag} {G : Rg} {H : Hp} {p : Addr} {vs : List V} {ds : List PyData} (hp : H p = none) (hd : DnA K G H vs ds) : NewC K G H (.lst ds) (.ref p) (upd H p (.lst vs)) :=
  ⟨[p], fun a h => upd_ne (by simpa using h), fun q hq => by
    have : q = p := by simpa using hq
    subst this
    exact ⟨hp, by rw [upd_same]; simp⟩, p, vs, rfl, rfl, upd_same, hd.mono (fun _ _ z => z) (tup_upd hp)⟩
theorem NewC.grow {K : PySem.W.Frag} {G : Gh} {H H' : Hp} {R' : Rg} {c : Cl} {v : V} (w : Wf G H) {fp : List Addr} (h1 : ∀ a, a ∉ fp → H' a = H a) (h2 : ∀ p ∈ fp, H p = none ∧ H' p ≠ none) : Grow G H G.N H' [] := by
  have k : ∀ a o, H a = some o → H' a = some o := fun a o h => by
    rw [h1 a fun hp => by rw [(h2 a hp).1] at h; cases h]
    exact h
  exact ⟨fun a o h _ => k a o h, fun _ h => absurd h (by simp), fun a xs h => k _ _ h, fun _ _ h => h, fun a o h => ⟨k _ _ (w.new a o h).1, .inl h⟩⟩
theorem Sta.putC {K : PySem.W.Frag} {G : Gh} {H H' : Hp} {σ : St} {Γ : List Sl} {c : Cl} {v : V} (s : Sta K G H σ Γ) (i : Nat) (h : NewC K (rg G true) H c v H') : Sta K G H' (σ.set i (some v)) (Γ.set i (.own c)) ∧ Ext G H G H' := by
  obtain ⟨A, S⟩ := s
  obtain ⟨fp, h1, h2, h3⟩ := h
  refine S.step (i := i) (fp' := fp) (NewC.grow (K := K) (R' := rg G true) (c := c) (v := v) S.w h1 h2) (fun p hp => absurd hp (by simp)) (fun j hj => List.getElem?_set_ne (Ne.symm hj)) (List.length_set ..) (fun hlt => ⟨v, ?_, fun q hq => ?_, h3⟩) (fun q hq => ?_)
  · exact set_at (by rw [← S.len]; exact hlt)
  · exact (S.w.fresh (h2 q hq).1).2.1
  · exact ⟨(h2 q hq).2, (S.w.fresh (h2 q hq).1).1, .inr (h2 q hq).1⟩
theorem Cl.nt {K : PySem.W.Frag} {G : Rg} {H : Hp} {v : V} {fp : List Addr} {c : Cl} (h : c.ok K G H v fp) : ∀ p ∈ fp, ∃ o, H p = some o ∧ (∀ xs, o ≠ .tup xs) ∧ ∀ x y, o ≠ .frz x y := by
  cases c with
  | lst ds =>
    obtain ⟨p, vs, rfl, rfl, h1, h2⟩ := h
    intro q hq
    have : q = p := by simpa using hq
    subst this
    exact ⟨_, h1, fun _ z => (nomatch z), fun _ _ z => (nomatch z)⟩
  | tr T => exact h.1.nt
  | mul t l => exact h.1.nt
  | dic t kvs =>
    obtain ⟨p, o, vs, rfl, rfl, h1, h2, h3⟩ := h
    intro q hq
    have : q = p := by simpa using hq
    subst this
    cases t with
    | k => obtain ⟨_, rfl, _⟩ := h2; exact ⟨_, h1, fun _ z => (nomatch z), fun _ _ z => (nomatch z)⟩
    | t => obtain ⟨_, rfl, _⟩ := h2; exact ⟨_, h1, fun _ z => (nomatch z), fun _ _ z => (nomatch z)⟩
    | n => obtain ⟨_, _, rfl, _⟩ := h2; exact ⟨_, h1, fun _ z => (nomatch z), fun _ _ z => (nomatch z)⟩
  | feed f =>
    obtain ⟨d, l, rfl, rfl, h3, h4, h5⟩ := h
    intro q hq
    simp only [List.mem_cons, List.not_mem_nil, or_false] at hq
    rcases hq with rfl | rfl
    · exact ⟨_, h4, fun _ z => (nomatch z), fun _ _ z => (nomatch z)⟩
    · exact ⟨_, h5, fun _ z => (nomatch z), fun _ _ z => (nomatch z)⟩
theorem Sta.releaseC {K : PySem.W.Frag} {G : Gh} {H : Hp} {σ : St} {Γ : List Sl} {c : Cl} (s : Sta K G H σ Γ) (i : Nat) (hi : Γ[i]? = some (.own c)) :
    ∃ v H', σ[i]? = some (some v) ∧ Sta K G H' σ (Γ.set i .un) ∧ Ext G H G H' ∧ NewC K (rg G true) H' c v H := by
  obtain ⟨A, S⟩ := s
  obtain ⟨v, h1, h0, hc⟩ := S.sl i _ hi
  have nt := Cl.nt hc
  let H' : Hp := fun a => if a ∈ A i then none else H a
  have hne : ∀ a, a ∉ A i → H' a = H a := fun a h => if_neg h
  have hin : ∀ a, a ∈ A i → H' a = none := fun a h => if_pos h
  have nA : ∀ j, j ≠ i → ∀ p, p ∈ A j → p ∉ A i := fun j hj p h h' => hj (S.dj j i p h h')
  have t : TupLe H H' := fun a xs h => by
    rw [hne a fun z => by obtain ⟨o, e, q, _⟩ := nt a z; rw [e] at h; exact q xs (Option.some.inj h)]
    exact h
  have w : Wf G H' := by
    refine ⟨fun a u h h2 => ?_, fun a u h => ?_, fun a h => ?_, S.w.p0, fun a u h => ?_, fun i q h => (S.w.iv i q h).imp id fun z => z.imp id fun ⟨xs, z⟩ => ⟨xs, t q xs z⟩⟩
    · rw [hne a fun z => by rw [h0 a z] at h; cases h]
      exact S.w.keep a u h h2
    · rw [hne a fun z => by rw [(S.al i a z).2.1] at h; cases h]
      exact S.w.new a u h
    · rw [hne a fun z => S.w.p0 a h (h0 a z)]
      exact S.w.pal a h
    · rw [hne a fun z => by rw [S.ae i a z] at h; cases h]
      exact S.w.ex a u h
  have e : Ext G H G H' := ⟨rfl, rfl, rfl, rfl, fun _ _ h => h, fun _ _ h => .inl h, t, w⟩
  refine ⟨v, H', h1, ⟨fun j => if j = i then [] else A j, w, by rw [List.length_set]; exact S.len, fun j s h => ?_, fun j q h => ?_, fun j q h => ?_, fun j k q h h2 => ?_, rf_set S.rf rfl (fun j hj => if_neg hj) (fun _ _ => rfl)⟩, e, A i, fun a h => (hne a h).symm, fun p hp => ⟨hin p hp, (S.al i p hp).1⟩, hc⟩
  · by_cases hj : j = i
    · subst hj
      rw [List.getElem?_set_self (List.getElem?_eq_some_iff.mp hi).1] at h
      cases h
      show (if j = j then [] else A j) = []
      rw [if_pos rfl]
    · rw [List.getElem?_set_ne (Ne.symm hj)] at h
      show SlOk K G H' j σ[j]? (if j = i then [] else A j) s
      rw [if_neg hj]
      exact (S.sl j s h).mono e fun a ha => hne a (nA j hj a ha)
  · by_cases hj : j = i
    · rw [if_pos hj] at h; cases h
    · rw [if_neg hj] at h
      exact ⟨by rw [hne q (nA j hj q h)]; exact (S.al j q h).1, (S.al j q h).2⟩
  · by_cases hj : j = i
    · rw [if_pos hj] at h; cases h
    · rw [if_neg hj] at h
      exact S.ae j q h
  · by_cases hj : j = i
    · rw [if_pos hj] at h; cases h
    · by_cases hk : k = i
      · rw [if_pos hk] at h2; cases h2
      · rw [if_neg hj] at h
        rw [if_neg hk] at h2
        exact S.dj j k q h h2
def frzC : Cl → Option PyData
  | .lst ds => some (.list ds)
  | .dic _ _ => none
  | .feed _ => none
  | .tr T => trD T
  | .mul _ _ => none
theorem NewC.frz {K : PySem.W.Frag} {G : Gh} {H H' : Hp} {σ : St} {Γ : List Sl} {c : Cl} {v : V} {d : PyData} (S : Sta K G H σ Γ) (h : NewC K (rg G true) H c v H') (hd : frzC c = some d) :
    ∃ G', Sta K G' H' σ Γ ∧ Ext G H G' H' ∧ Dn K (rg G' true) H' v d := by
  have key : ∀ p o, (∀ a, a ∉ [p] → H' a = H a) → H p = none → H' p = some o → ∃ G', Sta K G' H' σ Γ ∧ Ext G H G' H' ∧ RgLe (rg G true) (rg G' true) ∧ rg G' true p o := fun p o h1 hp ho => by
    have e : H' = upd H p o := by
      funext a
      by_cases q : a = p
      · subst q; rw [upd_same]; exact ho
      · rw [upd_ne q]; exact h1 a (by simpa using q)
    subst e
    obtain ⟨S2, e2⟩ := S.grow (grow_new (o := o) S.w hp)
    exact ⟨_, S2, e2, e2.n, upd_same⟩
  obtain ⟨fp, h1, h2, h3⟩ := h
  cases c with
  | lst ds =>
    cases hd
    obtain ⟨p, vs, rfl, rfl, g1, g2⟩ := h3
    obtain ⟨G', S', e', l, q⟩ := key p _ h1 (h2 p (by simp)).1 g1
    exact ⟨G', S', e', .lst (.inl q) (g2.mono l (TupLe.rf _))⟩
  | dic t kvs => cases hd
  | feed f => cases hd
  | tr T =>
    have hin : ∀ a ∈ fp, H a = none := fun a ha => (h2 a ha).1
    let N' : Hp := fun a => if a ∈ fp then H' a else G.N a
    have nN : ∀ a o, G.N a = some o → a ∉ fp := fun a o e z => by
      have := (S.w.new a o e).1
      rw [hin a z] at this; cases this
    have g : Grow G H N' H' [] := by
      have k : ∀ a o, H a = some o → H' a = some o := fun a o e => by
        rw [h1 a fun z => by rw [hin a z] at e; cases e]; exact e
      refine ⟨fun a o e _ => k a o e, fun _ z => absurd z (by simp), fun a xs e => k _ _ e, fun a o e => ?_, fun a o e => ?_⟩
      · show (if a ∈ fp then H' a else G.N a) = some o
        rw [if_neg (nN a o e)]; exact e
      · have e : (if a ∈ fp then H' a else G.N a) = some o := e
        by_cases z : a ∈ fp
        · rw [if_pos z] at e; exact ⟨e, .inr (hin a z)⟩
        · rw [if_neg z] at e; exact ⟨k _ _ (S.w.new a o e).1, .inl e⟩
    obtain ⟨S2, e2⟩ := S.grow g
    refine ⟨_, S2, e2, TreOk.dn e2.n h3.1 (fun a ha o ho => ?_) d hd⟩
    show (if a ∈ fp then H' a else G.N a) = some o
    rw [if_pos ha]; exact ho
  | mul t l => cases hd
abbrev DC := List Sl → R (Cl × List Sl)
inductive Rs where
  | d (x : PyData)
  | c (x : Cl)
inductive Fw where
  | nx
  | bk
  | ct
  | rt (r : Rs)
abbrev DS := List Sl → R (Fw × List Sl)
def rdC (X : Cx) (W : WX) (Γ : List Sl) (m : R (Cl × List Sl)) : TE := fun σ H Q => ∃ G, Sta X.K G H σ Γ ∧ Pst X W G H σ m fun r G' H' => ∀ v H2, Sta X.K G' H' σ r.2 → NewC X.K (rg G' true) H' r.1 v H2 → Q v H2
def CC (X : Cx) (W : WX) (e : Expr) (f : DC) : Prop := ∀ Γ, PE X e (rdC X W Γ (f Γ))
def FinU (K : PySem.W.Frag) (G : Gh) (H : Hp) (D : Ends) (Γ : List Sl) : Fw → Prop
  | .nx => ∀ σ, Sta K G H σ Γ → D.nx σ H
  | .bk => ∀ σ, Sta K G H σ Γ → D.bk σ H
  | .ct => ∀ σ, Sta K G H σ Γ → D.ct σ H
  | .rt (.d x) => ∀ σ v, Sta K G H σ Γ → Dn K (rg G true) H v x → D.rt v H
  | .rt (.c c) => ∀ σ v H2, Sta K G H σ Γ → NewC K (rg G true) H c v H2 → D.rt v H2
def rdB (X : Cx) (W : WX) (Γ : List Sl) (m : R (Fw × List Sl)) : TS := fun D σ H => ∃ G, Sta X.K G H σ Γ ∧ Pst X W G H σ m fun z G' H' => FinU X.K G' H' D z.2 z.1
def C1 (X : Cx) (W : WX) (s : Stmt) (f : DS) : Prop := ∀ Γ, PS X s (rdB X W Γ (f Γ))
def CS (X : Cx) (W : WX) (ss : List Stmt) (f : DS) : Prop := ∀ Γ, PSs X ss (rdB X W Γ (f Γ))
theorem ps_imp {X : Cx} {s : Stmt} {t t' : TS} (h : PS X s t) (k : ∀ D σ H, t' D σ H → t D σ H) : PS X s t' := ⟨fun pins s σ H D I z => h.run pins s σ H D I (k D σ H z)⟩
theorem pss_imp {X : Cx} {s : List Stmt} {t t' : TS} (h : PSs X s t) (k : ∀ D σ H, t' D σ H → t D σ H) : PSs X s t' := ⟨fun pins s σ H D I z => h.run pins s σ H D I (k D σ H z)⟩
theorem pss_any {X : Cx} {s : List Stmt} {α : Type} {t : α → TS} (h : ∀ x, PSs X s (t x)) : PSs X s (fun D σ H => ∃ x, t x D σ H) := ⟨fun pins s σ H D I ⟨x, z⟩ => (h x).run pins s σ H D I z⟩
def wipeG (Γ : List Sl) : List Nat → List Sl
  | [] => Γ
  | i :: is => (wipeG Γ is).set i .un
theorem Sta.wipe {K : PySem.W.Frag} {G : Gh} {H : Hp} {σ : St} {Γ : List Sl} (s : Sta K G H σ Γ) : ∀ is : List Nat, Sta K G H σ (wipeG Γ is)
  | [] => s
  | i :: is => (Sta.wipe s is).forget i
theorem pg_imp {X : Cx} {tg : Expr} {t t' : TG} (h : PG X tg t) (k : ∀ v σ H Q, t' v σ H Q → t v σ H Q) : PG X tg t' := ⟨fun pins s σ H v u Q I r z => h.run pins s σ H v u Q I r (k v σ H Q z)⟩
structure ItD (K : PySem.W.Frag) (G : Gh) (H : Hp) (J : It) (ds : List PyData) (fr : Bool) : Prop where
  go : ∀ i G2 H2, i < ds.length → Le G H G2 H2 → J.go i H2
  yl : ∀ i G2 H2 σ Γ v H3, i < ds.length → Le G H G2 H2 → Sta K G2 H2 σ Γ → J.yld i H2 v H3 → ∃ G3 d, ds[i]? = some d ∧ Ext G2 H2 G3 H3 ∧ Sta K G3 H3 σ Γ ∧ Dn K (rg G3 fr) H3 v d
  st : ∀ G2 H2, Le G H G2 H2 → J.stop ds.length H2
theorem pi_imp {X : Cx} {tg it : Expr} {t t' : TI} (h : PI X tg it t) (k : ∀ σ H Q, t' σ H Q → t σ H Q) : PI X tg it t' := ⟨fun pins s σ H Q I z => h.run pins s σ H Q I (k σ H Q z)⟩
theorem Cf0.pg {X : Cx} {W : WX} {sc : Scope} {N : List Str} (C : Cf0 X W sc N) {i : Nat} {x : Str} {p : Pos} (hN : N[i]? = some x) (hv : Sto X sc x) : PG X (.Name x p) (gName i) :=
  pg_name (by rw [C.hN]; exact C.nd) (by rw [C.hN]; exact hN) (by rw [C.hsc]; exact hv.1) (by rw [C.hsc]; exact hv.2)
end PD
set_option Elab.async false
set_option linter.all false
set_option maxRecDepth 100000
set_option maxHeartbeats 4000000
set_option autoImplicit false
namespace PD
open PySem L2
section
variable {X : Cx} {W : WX} {sc : Scope} {N : List Str} {e : Expr} {ss rest : List Stmt} {s : Stmt} {pos : Pos} {f g : DS}
def nL (n : DN) : DC := fun Γ => (n Γ).bind fun z => .val (.lst z.1, z.2)
theorem cc_l {n : DN} (h : CN X W e n) : CC X W e (nL n) := fun Γ => pe_imp (h Γ) fun σ H Q ⟨G, S, p⟩ => ⟨G, S, (Pst.bind p).imp fun z G1 H1 e1 p1 q vs S1 hq hd => p1 G1 H1 (Ext.rf S1.w) _ _ S1 (newc_lst hq hd)⟩
def bNil : DS := fun Γ => .val (.nx, Γ)
def bSeq (f g : DS) : DS := fun Γ => (f Γ).bind fun z => match z.1 with
  | .nx => g z.2
  | w => .val (w, z.2)
theorem cs_nil : CS X W [] bNil := fun Γ => pss_imp pss_nil fun D σ H ⟨G, S, p⟩ => p G H (Ext.rf S.w) σ S
theorem cs_cons (hs : C1 X W s f) (hr : CS X W rest g) : CS X W (s :: rest) (bSeq f g) := fun Γ =>
  pss_imp (pss_cons (hs Γ) (pss_any fun Γ1 => hr Γ1)) fun D σ H ⟨G, S, p⟩ => ⟨G, S, (Pst.bind p).imp fun z G1 H1 e1 p1 => by
    obtain ⟨w, Γ1⟩ := z
    cases w with
    | nx => exact fun σ1 S1 => ⟨Γ1, G1, S1, p1⟩
    | bk => exact p1 G1 H1 (Ext.rf e1.w)
    | ct => exact p1 G1 H1 (Ext.rf e1.w)
    | rt r =>
      have q : FinU X.K G1 H1 D Γ1 (.rt r) := p1 G1 H1 (Ext.rf e1.w)
      cases r with
      | d x => exact q
      | c x => exact q⟩
def asSl : AV → Option Sl
  | .d fr d => some (.dat fr d)
  | _ => none
def bSet (i : Nat) (e : DF) : DS := fun Γ => (e Γ).bind fun z => (R.ofO (asSl z.1)).bind fun s => .val (.nx, z.2.set i s)
theorem c1_set (C : Cf0 X W sc N) (i : Nat) {x : Str} {p' : Pos} {f : DF} (hN : N[i]? = some x) (hv : Sto X sc x) (he : CE X W e f) (hs : swapsWith e (some (.Name x p')) pos.line X.env = pure false := by rfl) : C1 X W (.Assign [.Name x p'] e pos) (bSet i f) := fun Γ => by
  have hx : Loc X.env.scope x := by rw [C.hsc]; exact hv.1
  refine ps_imp (ps_set (i := i) (by rw [C.hN]; exact C.nd) (by rw [C.hN]; exact hN) hx (he Γ) hs (by rw [C.hsc]; exact hv.2)) fun D σ H ⟨G, S, p⟩ => ⟨G, S, (Pst.bind p).imp fun z G1 H1 e1 p1 v S1 a1 => ?_⟩
  obtain ⟨y, Γ1⟩ := z
  cases y with
  | d fr d => exact p1 G1 H1 (Ext.rf S1.w) _ (S1.put i a1)
  | s j => exact p1.elim
def bSetC (i : Nat) (n : DC) : DS := fun Γ => (n Γ).bind fun z => .val (.nx, z.2.set i (.own z.1))
def bExpr (e : DF) : DS := fun Γ => (e Γ).bind fun z => .val (.nx, z.2)
theorem c1_expr {f : DF} (he : CE X W e f) (hs : swapsWith e none pos.line X.env = pure false := by rfl) : C1 X W (.Expr e pos) (bExpr f) := fun Γ =>
  ps_imp (ps_expr (he Γ) hs) fun D σ H ⟨G, S, p⟩ => ⟨G, S, (Pst.bind p).imp fun z G1 H1 e1 p1 v S1 a1 => p1 G1 H1 (Ext.rf S1.w) σ S1⟩
def bRet (e : DF) : DS := fun Γ => (e Γ).bind fun z => (frzA z).bind fun y => match y.1 with
  | .d true d => .val (.rt (.d d), y.2)
  | _ => .bad
theorem frzP {ρ : Type} {G : Gh} {H : Hp} {σ : St} {x : AV} {Γ : List Sl} {v : V} {k : AV × List Sl → R ρ} {P : ρ → Gh → Hp → Prop} (S : Sta X.K G H σ Γ) (hv : AVok X.K G H σ v x) (p : Pst X W G H σ ((frzA (x, Γ)).bind k) P) : ∃ y G', Sta X.K G' H σ y.2 ∧ Ext G H G' H ∧ AVok X.K G' H σ v y.1 ∧ Pst X W G' H σ (k y) P := by
  unfold frzA at p
  split at p
  · rename_i hz; cases hz; exact ⟨_, G, S, Ext.rf S.w, hv, p⟩
  · rename_i d Γ2 hz
    cases hz
    refine ⟨_, G, S, Ext.rf S.w, ?_, p⟩
    cases hf : flat d with
    | false => exact hv
    | true => exact Dn.free hv hf
  · rename_i i Γ2 hz
    cases hz
    split at p
    · rename_i ds hi
      obtain ⟨G2, S2, e2⟩ := S.freeze i hi
      have h2 : (Γ.set i (.dat true (.list ds)))[i]? = some (.dat true (.list ds)) := set_at (List.getElem?_eq_some_iff.mp hi).1
      obtain ⟨A2, T2⟩ := id S2
      obtain ⟨_, w, g1, g2⟩ := T2.sl i _ h2
      have hv : σ[i]? = some (some v) := hv
      rw [hv] at g1
      cases g1
      exact ⟨(.d true (.list ds), Γ.set i (.dat true (.list ds))), G2, S2, e2, g2, Pst.ext p e2⟩
    · exact p.elim
theorem c1_ret {f : DF} (he : CE X W e f) : C1 X W (.Return (some e) pos) (bRet f) := fun Γ =>
  ps_imp (ps_ret (he Γ)) fun D σ H ⟨G, S, p⟩ => ⟨G, S, (Pst.bind p).imp fun z G1 H1 e1 p1 v S1 a1 => by
    obtain ⟨x, Γ1⟩ := z
    obtain ⟨y, G2, S2, e2, a2, p2⟩ := frzP S1 a1 p1
    obtain ⟨y, Γ2⟩ := y
    simp only at p2
    split at p2
    · exact p2 G2 H1 (Ext.rf S2.w) σ v S2 a2
    · exact p2.elim⟩
def bRet0 : DS := fun Γ => .val (.rt (.d .none), Γ)
def bRetC (n : DC) : DS := fun Γ => (n Γ).bind fun z => .val (.rt (.c z.1), z.2)
theorem c1_retC {n : DC} (he : CC X W e n) : C1 X W (.Return (some e) pos) (bRetC n) := fun Γ =>
  ps_imp (ps_ret (he Γ)) fun D σ H ⟨G, S, p⟩ => ⟨G, S, (Pst.bind p).imp fun z G1 H1 e1 p1 v H2 S1 hn => p1 G1 H1 (Ext.rf S1.w) σ v H2 S1 hn⟩
def bRetO (i : Nat) : DS := fun Γ => match Γ[i]? with
  | some (.own c) => .val (.rt (.c c), Γ.set i .un)
  | _ => .bad
def bIf (c : DT) (f g : DS) : DS := fun Γ => (c Γ).bind fun x => if x.1 then f x.2 else g x.2
theorem c1_if {c : Expr} {a b : List Stmt} {t : DT} (hc : CT X W c t) (ha : CS X W a f) (hb : CS X W b g) : C1 X W (.If c a b pos) (bIf t f g) := fun Γ =>
  ps_imp (ps_if (hc Γ) (pss_any fun Γ1 => ha Γ1) (pss_any fun Γ1 => hb Γ1)) fun D σ H ⟨G, S, p⟩ => ⟨G, S, (Pst.bind p).imp fun z G1 H1 e1 p1 S1 => by
    obtain ⟨z, Γ1⟩ := z
    cases z with
    | true => exact itT ⟨Γ1, G1, S1, p1⟩
    | false => exact itF ⟨Γ1, G1, S1, p1⟩⟩
abbrev DG := Bool → PyData → List Sl → Option (List Sl)
def CG (X : Cx) (tg : Expr) (ts : List Nat) (g : DG) : Prop :=
  PG X tg (fun v σ H Q => ∃ G Γ fr d Γ', Sta X.K G H σ Γ ∧ Dn X.K (rg G fr) H v d ∧ g fr d Γ = some Γ' ∧ ∀ σ', σ'.length = σ.length → (∀ j, j ∉ ts → σ'[j]? = σ[j]?) → Sta X.K G H σ' Γ' → Q σ' H)
def gN (i : Nat) : DG := fun fr d Γ => some (Γ.set i (.dat fr d))
theorem cg_name (C : Cf0 X W sc N) (i : Nat) {x : Str} {p : Pos} (hN : N[i]? = some x) (hv : Sto X sc x) : CG X (.Name x p) [i] (gN i) :=
  pg_imp (C.pg hN hv) fun v σ H Q ⟨G, Γ, fr, d, Γ', S, h, e, k⟩ => by
    cases e
    exact k _ (List.length_set ..) (fun j hj => List.getElem?_set_ne (Ne.symm (by simpa using hj))) (S.put i h)
def gT2 (g1 g2 : DG) : DG := fun fr d Γ => match d with
  | .tuple [a, b] => (g1 fr a Γ).bind fun Γ1 => g2 fr b Γ1
  | _ => none
theorem cg_tup2 (C : Cf X W sc N) {t1 t2 : Expr} {kk : Nat} {p : Pos} {g1 g2 : DG} {ts1 ts2 : List Nat} (h1 : CG X t1 ts1 g1) (h2 : CG X t2 ts2 g2)
    (hn : (assignEach [t1, t2] X.env).length = 2 := by rfl) (hst : (assignEach [t1, t2] X.env).findIdx? (·.1) = none := by rfl) (hs1 : (assignEach [t1, t2] X.env).map (·.2) = assign t1 X.env :: (assignEach [t2] X.env).map (·.2) := by rfl) (hs2 : (assignEach [t2] X.env).map (·.2) = assign t2 X.env :: (assignEach [] X.env).map (·.2) := by rfl) :
    CG X (.Tuple [t1, t2] kk p) (ts1 ++ ts2) (gT2 g1 g2) := by
  refine pg_imp (pg_tup (n := 2) C.calm (pgs_cons h1 (pgs_cons h2 pgs_nil hs2) hs1) hn hst) fun v σ H Q ⟨G, Γ, fr, d, Γ', S, h, e, k⟩ => ?_
  unfold gT2 at e
  split at e
  · rename_i a b
    obtain ⟨q, xs, rfl, hq, hd⟩ := dn_tuple h
    cases hd with
    | cons d1 r1 =>
      cases r1 with
      | cons d2 r2 =>
        cases r2
        cases e1 : g1 fr a Γ with
        | none => rw [e1] at e; cases e
        | some Γ1 =>
          rw [e1] at e
          exact ⟨q, _, rfl, hq, rfl, _, _, rfl, G, Γ, fr, a, Γ1, S, d1, e1, fun σ1 l1 k1 S1 => ⟨_, _, rfl, G, Γ1, fr, b, Γ', S1, d2, e, fun σ2 l2 k2 S2 => ⟨rfl, k _ (l2.trans l1) (fun j hj => (k2 j fun z => hj (by simp [z])).trans (k1 j fun z => hj (by simp [z]))) S2⟩⟩⟩
  · cases e
def bSetG (g : DG) (e : DF) : DS := fun Γ => (e Γ).bind fun z => match z.1 with
  | .d fr d => (R.ofO (g fr d z.2)).bind fun Γ1 => .val (.nx, Γ1)
  | _ => .bad
theorem c1_setG {tg : Expr} {ts : List Nat} {gg : DG} {f : DF} (hg : CG X tg ts gg) (he : CE X W e f) (hs : swapsWithSole [tg] e pos.line X.env = pure false := by rfl) (hw : swappedStores [tg] e X.env = pure none := by rfl) (h1 : (assignEach [tg] X.env).map (·.2) = [assign tg X.env] := by rfl) : C1 X W (.Assign [tg] e pos) (bSetG gg f) := fun Γ =>
  ps_imp (ps_asg (he Γ) hg hs hw h1) fun D σ H ⟨G, S, p⟩ => ⟨G, S, (Pst.bind p).imp fun z G1 H1 e1 p1 v S1 a1 => by
    obtain ⟨y, Γ1⟩ := z
    cases y with
    | s j => exact p1.elim
    | d fr d =>
      have p1 : Pst X W G1 H1 σ ((R.ofO (gg fr d Γ1)).bind fun Γ1 => (R.val (Fw.nx, Γ1))) (fun z G' H' => FinU X.K G' H' D z.2 z.1) := p1
      cases hz : gg fr d Γ1 with
      | none => rw [hz] at p1; exact p1.elim
      | some Γ2 =>
        rw [hz] at p1
        exact ⟨G1, Γ1, fr, d, Γ2, S1, a1, hz, fun σ' _ _ S' => p1 G1 H1 (Ext.rf S1.w) σ' S'⟩⟩
end
end PD
set_option Elab.async false
set_option linter.all false
set_option maxRecDepth 100000
set_option maxHeartbeats 4000000
set_option autoImplicit false
namespace PD
open PySem L2
theorem itd_list {K : PySem.W.Frag} {G : Gh} {H : Hp} {a : Addr} {xs : List V} {ds : List PyData} {fr : Bool} (h : LsR K (rg G fr) a xs) (hd : DnA K (rg G fr) H xs ds) : ItD K G H (Itl K a) ds fr := by
  have sq : ∀ G2 H2, Le G H G2 H2 → SqL K H2 a xs := fun G2 H2 e => ((h.mono (e.rgl fr)).mono (e.w.rgl fr)).sq
  have hl := hd.length
  refine ⟨fun i G2 H2 hi e => ⟨xs, xs[i], sq G2 H2 e, by simp⟩, fun i G2 H2 σ Γ v H3 hi e S y => ?_, fun G2 H2 e => ⟨xs, sq G2 H2 e, Nat.le_of_eq hl⟩⟩
  obtain ⟨rfl, hy⟩ := y
  obtain ⟨d, h1, h2⟩ := (e.dna hd).get (hy xs (sq G2 _ e))
  exact ⟨G2, d, h1, Ext.rf S.w, S, h2⟩
theorem itd_tup {K : PySem.W.Frag} {G : Gh} {H : Hp} {a : Addr} {xs : List V} {ds : List PyData} {fr : Bool} (h : H a = some (.tup xs)) (hd : DnA K (rg G fr) H xs ds) : ItD K G H (Itt K a) ds fr := by
  have sq : ∀ G2 H2, Le G H G2 H2 → SqT K H2 a xs := fun G2 H2 e => SqT.of (e.t _ _ h)
  have hl := hd.length
  refine ⟨fun i G2 H2 hi e => ⟨xs, xs[i], sq G2 H2 e, by simp⟩, fun i G2 H2 σ Γ v H3 hi e S y => ?_, fun G2 H2 e => ⟨xs, sq G2 H2 e, Nat.le_of_eq hl⟩⟩
  obtain ⟨rfl, hy⟩ := y
  obtain ⟨d, h1, h2⟩ := (e.dna hd).get (hy xs (sq G2 _ e))
  exact ⟨G2, d, h1, Ext.rf S.w, S, h2⟩
theorem itd_range {K : PySem.W.Frag} {G : Gh} {H : Hp} {lo : Int} {n : Nat} {ds : List PyData} (hd : ds = (List.range n).map fun i => PyData.int (lo + (i : Nat))) : ItD K G H (Itr lo n) ds true := by
  subst hd
  refine ⟨fun i G2 H2 hi e => by simpa [Itr] using hi, fun i G2 H2 σ Γ v H3 hi e S y => ?_, fun G2 H2 e => by simp [Itr]⟩
  obtain ⟨rfl, rfl⟩ := y
  have hi : i < n := by simpa using hi
  exact ⟨G2, .int (lo + (i : Nat)), by simp [hi], Ext.rf S.w, S, .int _⟩
def rng (lo hi : Int) : List Int := (List.range (hi - lo).toNat).map fun i => lo + (i : Nat)
def cRng (lo hi : Int) : Bool := decide (-(2 ^ 62) ≤ lo ∧ lo < 2 ^ 62 ∧ -(2 ^ 62) ≤ hi ∧ hi < 2 ^ 62)
theorem rng_ds (lo hi : Int) : (rng lo hi).map PyData.int = (List.range (hi - lo).toNat).map fun i => PyData.int (lo + (i : Nat)) := by
  unfold rng
  rw [List.map_map]
  rfl
def enumD (ds : List PyData) : List PyData := ds.mapIdx fun i d => .tuple [.int (i : Nat), d]
abbrev DI := List Sl → R ((List PyData × Bool) × List Sl)
def rdIU (X : Cx) (W : WX) (Γ : List Sl) (m : R ((List PyData × Bool) × List Sl)) : TI := fun σ H Q => ∃ G, Sta X.K G H σ Γ ∧ Pst X W G H σ m fun r G' H' => ∀ J, Sta X.K G' H' σ r.2 → ItD X.K G' H' J r.1.1 r.1.2 → Q J H'
def CI (X : Cx) (W : WX) (tg iter : Expr) (f : DI) : Prop := ∀ Γ, PI X tg iter (rdIU X W Γ (f Γ))
section
variable {X : Cx} {W : WX} {sc : Scope} {N : List Str} {e e2 tg iter : Expr} {pos p : Pos} {f g : DF} {k : DA}
theorem pi_no {t : TI} (h : ∀ σ H Q, ¬ t σ H Q) : PI X tg iter t := ⟨fun pins s σ H R I z => (h _ _ _ z).elim⟩
def seqA : AV → Option (List PyData × Bool)
  | .d fr (.list ds) => some (ds, fr)
  | .d fr (.tuple ds) => some (ds, fr)
  | _ => none
def iSeq (f : DF) : DI := fun Γ => (f Γ).bind fun z => (R.ofO (seqA z.1)).bind fun y => .val (y, z.2)
theorem ci_seq (h : CE X W e f) : CI X W tg e (iSeq f) := fun Γ => by
  have h := h Γ
  unfold iSeq
  cases hf : f Γ with
  | bad => exact pi_no fun σ H Q ⟨G, S, q⟩ => q
  | exc x =>
    rw [hf] at h
    exact pi_imp (pi_list h) fun σ H Q ⟨G, S, q⟩ => ⟨G, S, q⟩
  | val z =>
    rw [hf] at h
    obtain ⟨y, Γ1⟩ := z
    cases hy : seqA y with
    | none =>
      refine pi_no fun σ H Q ⟨G, S, q⟩ => ?_
      · have q : Pst X W G H σ ((R.ofO (seqA y)).bind fun y => R.val (y, Γ1)) (fun r G' H' => ∀ J, Sta X.K G' H' σ r.2 → ItD X.K G' H' J r.1.1 r.1.2 → Q J H') := q
        rw [hy] at q
        exact q
    | some w =>
      have key : ∀ {σ H Q}, rdIU X W Γ ((R.val (y, Γ1)).bind fun z => (R.ofO (seqA z.1)).bind fun y => .val (y, z.2)) σ H Q → ∃ G, Sta X.K G H σ Γ ∧ ∀ G' H', Ext G H G' H' → ∀ J, Sta X.K G' H' σ Γ1 → ItD X.K G' H' J w.1 w.2 → Q J H' := fun {σ H Q} ⟨G, S, q⟩ => by
        have q : Pst X W G H σ ((R.ofO (seqA y)).bind fun y => R.val (y, Γ1)) (fun r G' H' => ∀ J, Sta X.K G' H' σ r.2 → ItD X.K G' H' J r.1.1 r.1.2 → Q J H') := q
        rw [hy] at q
        exact ⟨G, S, q⟩
      unfold seqA at hy
      split at hy
      · cases hy
        refine pi_imp (pi_list h) fun σ H Q z => ?_
        obtain ⟨G, S, q⟩ := key z
        refine ⟨G, S, fun G' H' e' v S' a => ?_⟩
        obtain ⟨l, xs, rfl, h1, h2⟩ := dn_list a
        exact ⟨l, rfl, ⟨xs, (h1.mono (S'.w.rgl _)).sq⟩, q G' H' e' _ S' (itd_list h1 h2)⟩
      · cases hy
        refine pi_imp (pi_tup h) fun σ H Q z => ?_
        obtain ⟨G, S, q⟩ := key z
        refine ⟨G, S, fun G' H' e' v S' a => ?_⟩
        obtain ⟨l, xs, rfl, h1, h2⟩ := dn_tupleH a
        exact ⟨l, rfl, ⟨xs, SqT.of h1⟩, q G' H' e' _ S' (itd_tup h1 h2)⟩
      · cases hy
theorem avs_one {K : PySem.W.Frag} {G : Gh} {H : Hp} {σ : St} {vs : List V} {a : AV} (h : AVs K G H σ vs [a]) : ∃ v, vs = [v] ∧ AVok K G H σ v a := by
  cases h with
  | cons h r => cases r; exact ⟨_, rfl, h⟩
theorem avs_two {K : PySem.W.Frag} {G : Gh} {H : Hp} {σ : St} {vs : List V} {a b : AV} (h : AVs K G H σ vs [a, b]) : ∃ v u, vs = [v, u] ∧ AVok K G H σ v a ∧ AVok K G H σ u b := by
  cases h with
  | cons h r =>
    obtain ⟨u, rfl, h2⟩ := avs_one r
    exact ⟨_, u, rfl, h, h2⟩
def intA : AV → Option Int
  | .d _ (.int i) => some i
  | _ => none
theorem intA_ok {K : PySem.W.Frag} {G : Gh} {H : Hp} {σ : St} {v : V} {a : AV} {i : Int} (h : intA a = some i) (hv : AVok K G H σ v a) : v = .int i := by
  unfold intA at h
  split at h
  · cases h; exact dn_int hv
  · cases h
theorem Pst.ofO {G : Gh} {H : Hp} {σ : St} {α τ : Type} {o : Option α} {k : α → R τ} {P : τ → Gh → Hp → Prop} (h : Pst X W G H σ ((R.ofO o).bind k) P) : ∃ x, o = some x ∧ Pst X W G H σ (k x) P := by
  cases o with
  | none => exact h.elim
  | some x => exact ⟨x, rfl, h⟩
theorem Pst.req {G : Gh} {H : Hp} {σ : St} {τ : Type} {c : Bool} {m : R τ} {P : τ → Gh → Hp → Prop} (h : Pst X W G H σ ((R.req c).bind fun _ => m) P) : c = true ∧ Pst X W G H σ m P := by
  cases c with
  | false => exact h.elim
  | true => exact ⟨rfl, h⟩
theorem Pst.gq {G : Gh} {H : Hp} {σ : St} {τ : Type} {c : Bool} {a : τ} {P : τ → Gh → Hp → Prop} (w : Wf G H) (h : Pst X W G H σ (gq c a) P) : c = true ∧ P a G H := by
  obtain ⟨h1, h2⟩ := Pst.req h
  exact ⟨h1, h2 G H (Ext.rf w)⟩
def iRange1 (f : DF) : DI := fun Γ => (f Γ).bind fun z => (R.ofO (intA z.1)).bind fun j => gq (cRng 0 j) (((rng 0 j).map PyData.int, true), z.2)
theorem ci_range1 (C : Cf0 X W sc N) (hg : glB sc "range" = true) (hm : X.mg "range" = none) (ha : CE X W e f) (hst : starEach [e] X.env = [(false, eval e X.env)] := by rfl) : CI X W tg (.Call (.Name "range" p) [e] [] pos) (iRange1 f) := fun Γ =>
  pi_imp (pi_range1 (C.gl hg) hm (pa_cons (ha Γ) pa_nil (by rw [hst]; rfl)) hst) fun σ H Q ⟨G, S, q⟩ => ⟨G, S, (Pst.bind q).imp fun z G1 H1 e1 p1 v S1 av => by
    obtain ⟨j, hj, p1⟩ := Pst.ofO p1
    obtain ⟨c, p1⟩ := Pst.gq S1.w p1
    have c := of_decide_eq_true c
    exact ⟨j, by rw [intA_ok hj av], c.2.2.1, c.2.2.2, p1 _ S1 (by rw [show j.toNat = (j - 0).toNat by simp]; exact itd_range (rng_ds 0 j))⟩⟩
def iRange2 (f g : DF) : DI := fun Γ => (f Γ).bind fun z => (g z.2).bind fun y => (R.ofO (intA z.1)).bind fun i => (R.ofO (intA y.1)).bind fun j => gq (cRng i j) (((rng i j).map PyData.int, true), y.2)
end
end PD
set_option Elab.async false
set_option linter.all false
set_option maxRecDepth 100000
set_option maxHeartbeats 4000000
set_option autoImplicit false
namespace PD
open PySem L2
open Sem (wp)
section
variable {X : Cx} {W : WX} {sc : Scope} {N : List Str} {e e2 tg iter : Expr} {pos p : Pos} {f g : DF} {k : DA}
def iEnum (f : DF) : DI := fun Γ => (f Γ).bind fun z => (R.ofO (seqA z.1)).bind fun y => .val ((enumD y.1, y.2), z.2)
def loopU (is : List Nat) (g : DG) (fr : Bool) (b : DS) : List PyData → List Sl → R (Fw × List Sl)
  | [], Γ => .val (.nx, wipeG Γ is)
  | d :: ds, Γ => (R.ofO (g fr d (wipeG Γ is))).bind fun Γ1 => (b Γ1).bind fun z => match z.1 with
    | .nx => loopU is g fr b ds z.2
    | .ct => loopU is g fr b ds z.2
    | .bk => .val (.nx, wipeG z.2 is)
    | .rt r => .val (.rt r, z.2)
def bFor (is : List Nat) (g : DG) (it : DI) (b : DS) : DS := fun Γ => (it Γ).bind fun z => loopU is g z.1.2 b z.1.1 z.2
theorem c1_for (C : Cf X W sc N) (is : List Nat) {body : List Stmt} {it : DI} {ts : List Nat} {gg : DG} {b : DS} (hi : CI X W tg iter it) (hg : CG X tg ts gg) (hb : CS X W body b) (hs : ∀ x, foldedSetIterable iter X.env x = pure x := by intro _; rfl) : C1 X W (.For tg iter body [] pos) (bFor is gg it b) := fun Γ => by
  refine ps_imp (ps_for C.pass C.calm (hi Γ) hg (pss_any fun Γ1 => hb Γ1) hs) fun D σ H ⟨G, S0, q⟩ => ⟨G, S0, (Pst.bind q).imp fun r G1 H1 e1 p1 J S1 I => ?_⟩
  obtain ⟨⟨items, fr⟩, Γ1⟩ := r
  have p1 : Pst X W G1 H1 σ (loopU is gg fr b items Γ1) fun z G' H' => FinU X.K G' H' D z.2 z.1 := p1
  have I : ItD X.K G1 H1 J items fr := I
  let P : Fw × List Sl → Gh → Hp → Prop := fun z G' H' => FinU X.K G' H' D z.2 z.1
  refine ⟨fun i m σ H => m = items.length - i ∧ i ≤ items.length ∧ ∃ G Γ2, Ext G1 H1 G H ∧ Sta X.K G H σ Γ2 ∧ Pst X W G H σ (loopU is gg fr b (items.drop i) Γ2) P, ⟨_, rfl, Nat.zero_le _, G1, Γ1, Ext.rf S1.w, S1, p1⟩, ?_⟩
  rintro i m σ2 H2 ⟨rfl, hi2, G2, Γ2, e2, S2, p2⟩
  by_cases hlt : i < items.length
  · rw [List.drop_eq_getElem_cons hlt] at p2
    unfold loopU at p2
    obtain ⟨Γ3, hg3, p3⟩ := Pst.ofO p2
    refine .inr ⟨I.go i G2 H2 hlt e2.le, fun σ' H' => ∃ G4 Γ4, Ext G1 H1 G4 H' ∧ Sta X.K G4 H' σ' Γ4 ∧ Pst X W G4 H' σ' (loopU is gg fr b (items.drop (i + 1)) Γ4) P, fun σ' H' ⟨G4, Γ4, q1, q2, q3⟩ => ⟨_, ?_, rfl, hlt, G4, Γ4, q1, q2, q3⟩, fun v H3 y => ?_⟩
    · omega
    · obtain ⟨G3, d, hd, e3, S3, dn⟩ := I.yl i G2 H2 σ2 _ v H3 hlt e2.le S2 y
      have hx : d = items[i] := by
        rw [List.getElem?_eq_getElem hlt] at hd
        exact (Option.some.inj hd).symm
      subst hx
      refine ⟨G3, wipeG Γ2 is, fr, items[i], Γ3, S3.wipe is, dn, hg3, fun σ4 _ _ S4 => ⟨Γ3, G3, S4, (Pst.bind (Pst.ext p3 e3)).imp fun z G5 H5 e5 p5 => ?_⟩⟩
      have e15 : Ext G1 H1 G5 H5 := (e2.tr e3).tr e5
      obtain ⟨w, Γ5⟩ := z
      cases w with
      | nx => exact fun σ6 S6 => ⟨G5, Γ5, e15, S6, p5⟩
      | ct => exact fun σ6 S6 => ⟨G5, Γ5, e15, S6, p5⟩
      | bk => exact fun σ6 S6 => p5 G5 H5 (Ext.rf S6.w) σ6 (S6.wipe is)
      | rt r =>
        have q : FinU X.K G5 H5 D Γ5 (.rt r) := p5 G5 H5 (Ext.rf e5.w)
        cases r with
        | d x => exact q
        | c x => exact q
  · have e : i = items.length := by omega
    subst e
    refine .inl ⟨I.st G2 H2 e2.le, ?_⟩
    rw [List.drop_length] at p2
    exact p2 G2 H2 (Ext.rf S2.w) σ2 (S2.wipe is)
def loopW (is : List Nat) (c : DT) (b : DS) : Nat → List Sl → R (Fw × List Sl)
  | 0, _ => .bad
  | n + 1, Γ => (c (wipeG Γ is)).bind fun x => if x.1 then (b x.2).bind fun z => match z.1 with
      | .nx => loopW is c b n z.2
      | .ct => loopW is c b n z.2
      | .bk => .val (.nx, wipeG z.2 is)
      | .rt r => .val (.rt r, z.2)
    else .val (.nx, x.2)
def bWhile (is : List Nat) (fuel : List Sl → Nat) (c : DT) (b : DS) : DS := fun Γ => loopW is c b (fuel Γ) Γ
theorem c1_while (C : Cf0 X W sc N) (is : List Nat) (fuel : List Sl → Nat) {test : Expr} {body : List Stmt} {c : DT} {b : DS} (hc : CT X W test c) (hb : CS X W body b) : C1 X W (.While test body [] pos) (bWhile is fuel c b) := fun Γ => by
  refine ps_imp (ps_while C.pass (pt_any fun Γ1 => hc Γ1) (pss_any fun Γ1 => hb Γ1)) fun D σ H ⟨G1, S1, p1⟩ => ?_
  let P : Fw × List Sl → Gh → Hp → Prop := fun z G' H' => FinU X.K G' H' D z.2 z.1
  let Wh : Nat → St → Hp → Prop := fun m σ H => ∃ G Γ2, Sta X.K G H σ Γ2 ∧ Pst X W G H σ (loopW is c b m Γ2) P
  refine ⟨Wh, ⟨fuel Γ, G1, Γ, S1, p1⟩, ?_⟩
  rintro m σ2 H2 ⟨G2, Γ2, S2, p2⟩
  cases m with
  | zero => exact p2.elim
  | succ m =>
    unfold loopW at p2
    refine ⟨wipeG Γ2 is, G2, S2.wipe is, (Pst.bind p2).imp fun x G3 H3 e3 p3 S3 => ?_⟩
    obtain ⟨z, Γ3⟩ := x
    cases z with
    | false => exact itF (p3 G3 H3 (Ext.rf S3.w) σ2 S3)
    | true =>
      refine itT ⟨Wh m, fun σ' H' h => ⟨m, Nat.lt_succ_self m, h⟩, Γ3, G3, S3, (Pst.bind (show Pst X W G3 H3 σ2 ((b Γ3).bind fun z => match z.1 with
      | .nx => loopW is c b m z.2
      | .ct => loopW is c b m z.2
      | .bk => .val (.nx, wipeG z.2 is)
      | .rt r => .val (.rt r, z.2)) P from p3)).imp fun z G5 H5 e5 p5 => ?_⟩
      obtain ⟨w, Γ5⟩ := z
      cases w with
      | nx => exact fun σ6 S6 => ⟨G5, Γ5, S6, p5⟩
      | ct => exact fun σ6 S6 => ⟨G5, Γ5, S6, p5⟩
      | bk => exact fun σ6 S6 => p5 G5 H5 (Ext.rf S6.w) σ6 (S6.wipe is)
      | rt r =>
        have q : FinU X.K G5 H5 D Γ5 (.rt r) := p5 G5 H5 (Ext.rf e5.w)
        cases r with
        | d x => exact q
        | c x => exact q
end
end PD
set_option Elab.async false
set_option linter.all false
set_option maxRecDepth 100000
set_option maxHeartbeats 4000000
set_option autoImplicit false
namespace PD
open PySem L2
abbrev RN (N : Hp) : Rg := fun a o => N a = some o
def NewIn (B N H H' : Hp) : Prop := ∀ a o, N a = some o → H' a = some o ∧ (H a = none ∨ B a = some o)
inductive Ar where
  | d (x : PyData)
  | n (x : PyData)
  | c (x : Cl)
def Cl.fl (_ : Cl) : Bool := true
structure ArgsU (K : PySem.W.Frag) (H : Hp) (vs : List V) (as : List Ar) (F : Nat → List Addr) (L : List Addr) (B : Hp) : Prop where
  len : vs.length = as.length
  dat : ∀ (i : Nat) (x : PyData), as[i]? = some (Ar.d x) → ∃ v, vs[i]? = some v ∧ Dn K (fun a o => H a = some o ∧ a ∉ L) H v x
  cel : ∀ (i : Nat) (c : Cl), as[i]? = some (Ar.c c) → ∃ v, vs[i]? = some v ∧ c.ok K (RN B) H v (F i)
  emp : ∀ i : Nat, (∀ c, as[i]? ≠ some (Ar.c c)) → F i = []
  all : ∀ i p, p ∈ F i → p ∈ L
  al : ∀ p, p ∈ L → H p ≠ none
  dj : ∀ i j p, p ∈ F i → p ∈ F j → i = j
  nat : ∀ (i : Nat) (x : PyData), as[i]? = some (Ar.n x) → ∃ v, vs[i]? = some v ∧ Dn K (RN B) H v x
  bok : ∀ a o, B a = some o → H a = some o ∧ a ∉ L
structure PostU (K : PySem.W.Frag) (H : Hp) (vs : List V) (F : Nat → List Addr) (L : List Addr) (B : Hp) (H' N : Hp) (Z : List Sl) (F' : Nat → List Addr) : Prop where
  keep : ∀ a o, H a = some o → a ∉ L → H' a = some o
  pal : ∀ a, a ∈ L → H' a ≠ none
  t : TupLe H H'
  new : NewIn B N H H'
  cel : ∀ (i : Nat) (c : Cl), Z[i]? = some (Sl.io c) → ∃ v, vs[i]? = some v ∧ c.ok K (RN N) H' v (F' i)
  al : ∀ i p, p ∈ F' i → H' p ≠ none ∧ N p = none ∧ (p ∈ L ∨ H p = none)
  dj : ∀ i j p, p ∈ F' i → p ∈ F' j → i = j
def RsOk (K : PySem.W.Frag) (N H' : Hp) (Q : VK) : Rs → Prop
  | .d d => ∀ v, Dn K (RN N) H' v d → Q v H'
  | .c c => ∀ v H2, NewC K (RN N) H' c v H2 → Q v H2
def spU (K : PySem.W.Frag) (mg : Str → Option Value) (m : List Ar → R (Rs × List Sl)) : Sp := fun vs H Q E => ∃ as F L B, ArgsU K H vs as F L B ∧ match m as with
  | .bad => False
  | .exc x => ∀ H' N F' C d, PostU K H vs F L B H' N x.st F' → mg x.cls = some (.ref C) → XdOk K (RN N) H' d x.flds → E (.ref C) d H'
  | .val z => ∀ H' N F', PostU K H vs F L B H' N z.2 F' → RsOk K N H' Q z.1
def scD : PyData → Bool
  | .none => true
  | .bool _ => true
  | .int _ => true
  | .str _ => true
  | _ => false
theorem scD_flat {d : PyData} (h : scD d = true) : flat d = true := by cases d <;> first | rfl | cases h
def arS : Ar → Sl
  | .d x => .dat (scD x) x
  | .n x => .dat true x
  | .c c => .io c
def initS (n : Nat) (as : List Ar) : List Sl := as.map arS ++ List.replicate (n - as.length) .un
def cellsAt : List Ar → List Sl → Option (List Sl)
  | [], _ => some []
  | .d _ :: as, _ :: Γ => (cellsAt as Γ).map (.un :: ·)
  | .n _ :: as, _ :: Γ => (cellsAt as Γ).map (.un :: ·)
  | .c _ :: as, .io c :: Γ => (cellsAt as Γ).map (.io c :: ·)
  | _, _ => none
theorem cellsAt_get : ∀ {as : List Ar} {Γ Z : List Sl} {i : Nat} {c : Cl}, cellsAt as Γ = some Z → Z[i]? = some (.io c) → Γ[i]? = some (.io c) ∧ ∃ c0, as[i]? = some (.c c0)
  | [], Γ, Z, i, c, h, hz => by
    cases h
    simp at hz
  | .d x :: as, [], Z, i, c, h, hz => by cases h
  | .d x :: as, g :: Γ, Z, i, c, h, hz => by
    have h : (cellsAt as Γ).map (.un :: ·) = some Z := h
    cases e : cellsAt as Γ with
    | none => rw [e] at h; cases h
    | some Y =>
      rw [e] at h
      cases h
      cases i with
      | zero => simp at hz
      | succ i => exact cellsAt_get (i := i) e (by simpa using hz)
  | .n x :: as, [], Z, i, c, h, hz => by cases h
  | .n x :: as, g :: Γ, Z, i, c, h, hz => by
    have h : (cellsAt as Γ).map (.un :: ·) = some Z := h
    cases e : cellsAt as Γ with
    | none => rw [e] at h; cases h
    | some Y =>
      rw [e] at h
      cases h
      cases i with
      | zero => simp at hz
      | succ i => exact cellsAt_get (i := i) e (by simpa using hz)
  | .c x :: as, [], Z, i, c, h, hz => by cases h
  | .c x :: as, .io q :: Γ, Z, i, c, h, hz => by
    have h : (cellsAt as Γ).map (.io q :: ·) = some Z := h
    cases e : cellsAt as Γ with
    | none => rw [e] at h; cases h
    | some Y =>
      rw [e] at h
      cases h
      cases i with
      | zero => exact ⟨hz, x, rfl⟩
      | succ i => exact cellsAt_get (i := i) e (by simpa using hz)
  | .c x :: as, .un :: Γ, Z, i, c, h, hz => by cases h
  | .c x :: as, .dat _ _ :: Γ, Z, i, c, h, hz => by cases h
  | .c x :: as, .own _ :: Γ, Z, i, c, h, hz => by cases h
def fwR : Fw → Option Rs
  | .nx => some (.d .none)
  | .rt r => some r
  | _ => none
def endB (as : List Ar) : R (Fw × List Sl) → R (Rs × List Sl)
  | .bad => .bad
  | .exc x => (R.ofO (cellsAt as x.st)).bind fun Z => .exc ⟨x.cls, x.flds, Z⟩
  | .val z => (R.ofO (fwR z.1)).bind fun r => (R.ofO (cellsAt as z.2)).bind fun Z => .val (r, Z)
@[irreducible] def runB (n np : Nat) (b : DS) (as : List Ar) : R (Rs × List Sl) := (R.req (as.length == np)).bind fun _ => endB as (b (initS n as))
theorem start_get {N : List Str} {vs : List V} {i : Nat} (h : i < vs.length) : (L2.start N vs)[i]? = (vs.map some)[i]? := by
  unfold L2.start
  rw [List.getElem?_append_left (by simpa using h)]
section
variable {P : Program} {w : World} {K : PySem.W.Frag} {mg : Str → Option Value} {base : Heap} {x qual : Str} {params : Arguments} {body : List Stmt} {scope : Scope} {dvs : List V} {kws : List (Str × V)} {f : Addr} {fd : FuncData} {N ps : List Str} {k : Nat}
structure Here (X : Cx) (W : WX) (P : Program) (w : World) (K : PySem.W.Frag) (mg : Str → Option Value) (base : Heap) (scope : Scope) (N : List Str) (k : Nat) : Prop where
  cf : Cf X W scope N
  prog : X.prog = P
  w : X.w = w
  K : X.K = K
  mg : X.mg = mg
  base : X.base = base
  room : Room k X.A
  fn : ∀ x, X.fn x = true
  stk : X.stack = X.env :: X.outer
  frm : X.env.frame = some X.env.locals
theorem here_of (S : FnScope N ps scope) {cdv : Value} {A : Around} {outer : List Env} {s : Shared} {H : Hp} {E : XK} (hr : Room k (A.deeper (PyProof.Rows.envOfC qual scope s.heap.objs.size f cdv))) :
    Here (cxOf (L2.CX P w) P w K mg base N qual scope f cdv A outer s H E) (fun cls d _ H => E cls d H) P w K mg base scope N k := by
  refine ⟨⟨⟨rfl, rfl, S.nd, takes_of rfl rfl rfl rfl, ?_, passes_of rfl, ?_⟩, rfl⟩, rfl, rfl, rfl, rfl, rfl, hr, fun x => rfl, rfl, rfl⟩
  · have := hr.un
    show (A.deeper _).units + 64 < cLine
    omega
  · have := hr.un
    show (A.deeper _).units + 150 < cLine
    omega
theorem fn_len {np nn : Nat} {b : DS} : ∀ vs H Q E, spU K mg (runB nn np b) vs H Q E → vs.length = np := fun vs H Q E ⟨as, Fp, L, B, A, h⟩ => by
  rw [A.len]
  by_cases e : as.length = np
  · exact e
  · have : (as.length == np) = false := by simpa using e
    unfold runB at h
    rw [this] at h
    exact h.elim
theorem fn_pre {b : DS} (hle : ps.length ≤ N.length) {X : Cx} (eK : X.K = K) (eM : X.mg = mg) {vs : List V} {H : Hp} {Q : VK} {E : XK} (hsp : spU K mg (runB N.length ps.length b) vs H Q E) :
    ∃ Γ, rdB X (fun cls d _ H => E cls d H) Γ (b Γ) { nx := fun _ H' => Q .non H', rt := Q } (L2.start N vs) H := by
  subst eK eM
  have hvl := fn_len vs H Q E hsp
  obtain ⟨as, Fp, L, B, AU, hq⟩ := hsp
  have hal : as.length = ps.length := AU.len.symm.trans hvl
  have hq : match endB as (b (initS N.length as)) with
    | .bad => False
    | .exc x => ∀ H' N F' C d, PostU X.K H vs Fp L B H' N x.st F' → X.mg x.cls = some (.ref C) → XdOk X.K (RN N) H' d x.flds → E (.ref C) d H'
    | .val z => ∀ H' N F', PostU X.K H vs Fp L B H' N z.2 F' → RsOk X.K N H' Q z.1 := by
    unfold runB at hq
    rw [show (as.length == ps.length) = true by simpa using hal] at hq
    exact hq
  refine ⟨initS N.length as, ?_⟩
  let cv : Nat → Option V := fun i => match as[i]? with
    | some (.c _) => vs[i]?
    | _ => none
  let G : Gh := ⟨H, L, cv, B, fun _ => none⟩
  have wf : Wf G H := ⟨fun a o h _ => h, fun a o h => ⟨(AU.bok a o h).1, trivial⟩, fun a h => AU.al a h, fun a h => AU.al a h, fun a o h => (by cases h), fun i p h => by
    have h : cv i = some (.ref p) := h
    simp only [cv] at h
    split at h
    · rename_i c hc
      obtain ⟨v, h1, h2⟩ := AU.cel i c hc
      rw [h1] at h
      cases h
      rcases Cl.root h2 with z | z
      · exact .inl (AU.all i p z)
      · exact .inr (.inr z)
    · cases h⟩
  have hg : RgLe (fun a o => H a = some o ∧ a ∉ L) (rg G false) := fun a o h => .inr h
  have st : Sta X.K G H (L2.start N vs) (initS N.length as) := by
    refine ⟨Fp, wf, ?_, fun i s h => ?_, fun i p h => ⟨AU.al p (AU.all i p h), (by cases q : B p with | none => exact q | some u => exact absurd (AU.all i p h) (AU.bok p u q).2), .inl (AU.all i p h)⟩, fun i p h => rfl, AU.dj, fun i j k ns h1 h2 => ?_⟩
    rotate_right
    · unfold initS at h2
      by_cases hj : j < as.length
      · rw [List.getElem?_append_left (by simpa using hj), List.getElem?_map] at h2
        cases ha : as[j]? with
        | none => rw [ha] at h2; cases h2
        | some y => rw [ha] at h2; cases y <;> cases h2
      · rw [List.getElem?_append_right (by simpa using hj)] at h2
        have := List.eq_of_mem_replicate (List.mem_of_getElem? h2)
        cases this
    · unfold initS L2.start
      simp [AU.len]
    · by_cases hi : i < as.length
      · have hi2 : i < vs.length := by rw [AU.len]; exact hi
        rw [start_get hi2, List.getElem?_map]
        unfold initS at h
        rw [List.getElem?_append_left (by simpa using hi), List.getElem?_map] at h
        cases ha : as[i]? with
        | none => rw [ha] at h; cases h
        | some y =>
          rw [ha] at h
          cases h
          cases y with
          | d x =>
            obtain ⟨v, h1, h2⟩ := AU.dat i x ha
            rw [h1]
            refine ⟨AU.emp i (by rw [ha]; intro c z; cases z), v, rfl, ?_⟩
            cases hx : scD x with
            | true => exact Dn.free h2 (scD_flat hx)
            | false => exact h2.mono hg (TupLe.rf _)
          | n x =>
            obtain ⟨v, h1, h2⟩ := AU.nat i x ha
            rw [h1]
            exact ⟨AU.emp i (by rw [ha]; intro c z; cases z), v, rfl, h2⟩
          | c c =>
            obtain ⟨v, h1, h2⟩ := AU.cel i c ha
            rw [h1]
            refine ⟨v, rfl, ?_, h2⟩
            show cv i = some v
            simp only [cv, ha, h1]
      · unfold initS at h
        rw [List.getElem?_append_right (by simpa using hi)] at h
        have : s = .un := List.eq_of_mem_replicate (List.mem_of_getElem? h)
        subst this
        exact AU.emp i (by rw [List.getElem?_eq_none (by omega)]; intro c z; cases z)
  have post : ∀ G' H' σ' Γ' Z, Ext G H G' H' → Sta X.K G' H' σ' Γ' → cellsAt as Γ' = some Z → ∃ F', PostU X.K H vs Fp L B H' G'.N Z F' := fun G' H' σ' Γ' Z e ⟨A', S'⟩ hz => by
    have h0 : G'.H0 = H := e.h0
    have hP : G'.P = L := e.p
    refine ⟨fun i => match Z[i]? with | some (.io _) => A' i | _ => [], fun a o h hp => e.w.keep a o (by rw [h0]; exact h) (by rw [hP]; exact hp), fun a ha => e.w.pal a (by rw [hP]; exact ha), e.t, fun a o h => ⟨(e.w.new a o h).1, (e.nn a o h).elim .inr .inl⟩, fun i c hc => ?_, fun i p hp => ?_, fun i j p hi hj => ?_⟩
    · obtain ⟨g1, c0, g2⟩ := cellsAt_get hz hc
      obtain ⟨v, q1, q2, q3⟩ := S'.sl i _ g1
      have q2 : G'.I i = some v := q2
      rw [e.i] at q2
      have q2 : cv i = some v := q2
      simp only [cv, g2] at q2
      refine ⟨v, q2, ?_⟩
      simp only [hc]
      exact q3
    · have hp : p ∈ (match Z[i]? with | some (.io _) => A' i | _ => []) := hp
      split at hp
      · rename_i c hc
        obtain ⟨q1, q2, q3⟩ := S'.al i p hp
        refine ⟨q1, q2, ?_⟩
        rw [hP, h0] at q3
        exact q3
      · cases hp
    · have hi : p ∈ (match Z[i]? with | some (.io _) => A' i | _ => []) := hi
      have hj : p ∈ (match Z[j]? with | some (.io _) => A' j | _ => []) := hj
      split at hi
      · split at hj
        · exact S'.dj i j p hi hj
        · cases hj
      · cases hi
  refine ⟨G, st, ?_⟩
  cases hm : b (initS N.length as) with
  | bad => rw [hm] at hq; exact hq
  | exc ex =>
    rw [hm] at hq
    intro G' H' σ' C d e S' g1 g2
    cases hz : cellsAt as ex.st with
    | none =>
      have hq : (match (R.ofO (cellsAt as ex.st)).bind (fun Z => (R.exc ⟨ex.cls, ex.flds, Z⟩ : R (Rs × List Sl))) with | .bad => False | .exc x => _ | .val z => _) := hq
      rw [hz] at hq
      exact hq.elim
    | some Z =>
      have hq : (match (R.ofO (cellsAt as ex.st)).bind (fun Z => (R.exc ⟨ex.cls, ex.flds, Z⟩ : R (Rs × List Sl))) with | .bad => False | .exc x => _ | .val z => _) := hq
      rw [hz] at hq
      obtain ⟨F', hp⟩ := post G' H' σ' ex.st Z e S' hz
      exact hq H' G'.N F' C d hp g1 g2
  | val r =>
    rw [hm] at hq
    intro G' H' e
    obtain ⟨w, Γ'⟩ := r
    have hq : (match (R.ofO (fwR w)).bind (fun r => (R.ofO (cellsAt as Γ')).bind fun Z => (R.val (r, Z) : R (Rs × List Sl))) with | .bad => False | .exc x => _ | .val z => _) := hq
    cases hz : cellsAt as Γ' with
    | none =>
      rw [hz] at hq
      cases hw : fwR w <;> rw [hw] at hq <;> exact hq.elim
    | some Z =>
      rw [hz] at hq
      have fin : ∀ r, fwR w = some r → ∀ σ', Sta X.K G' H' σ' Γ' → RsOk X.K G'.N H' Q r := fun r hr σ' S' => by
        rw [hr] at hq
        obtain ⟨F', hp⟩ := post G' H' σ' Γ' Z e S' hz
        exact hq H' G'.N F' hp
      cases w with
      | nx => exact fun σ' S' => fin _ rfl σ' S' .non .non
      | bk => exact hq.elim
      | ct => exact hq.elim
      | rt r =>
        cases r with
        | d x => exact fun σ' v S' hv => fin _ rfl σ' S' v hv
        | c x => exact fun σ' v H2 S' hn => fin _ rfl σ' S' v H2 hn
theorem fn_u (F : FunD K x qual params body scope dvs kws f fd) (S : FnScope N ps scope) {b : DS} (hle : ps.length ≤ N.length) (hb : ∀ X W, Here X W P w K mg base scope N k → CS X W body b) :
    FnOk P w K mg base (L2.CX P w) (k + 1) f fd ps (spU K mg (runB N.length ps.length b)) :=
  F.ok S fn_len fun cdv A outer s H vs Q E hr hsp => by
    obtain ⟨Γ, h⟩ := fn_pre hle (X := cxOf (L2.CX P w) P w K mg base N qual scope f cdv A outer s H E) rfl rfl hsp
    exact ⟨_, hb _ _ (here_of S hr) Γ, h⟩
end
end PD
set_option Elab.async false
set_option linter.all false
set_option maxRecDepth 100000
set_option maxHeartbeats 4000000
set_option autoImplicit false
namespace PD
open PySem L2
def Clee (X : Cx) (x : Str) (dvs : List V) (sp : Sp) : Prop :=
  ∃ (k : Nat) (f : Addr) (fd : FuncData) (ps : List Str) (ds : List Value), FnOk X.prog X.w X.K X.mg X.base (L2.CX X.prog X.w) k f fd ps sp ∧ Room k X.A ∧ X.mg x = some (.ref f) ∧ PySem.W.keepIn X.K (.ref f) = true ∧ Binds X.K fd ps ds ∧ Vals dvs ds
def jn (N N' : Hp) : Hp := fun a => match N a with
  | some o => some o
  | none => N' a
theorem jn_left {N N' : Hp} {a : Addr} {o : HO} (h : N a = some o) : jn N N' a = some o := by unfold jn; rw [h]
theorem jn_right {N N' : Hp} {a : Addr} (h : N a = none) : jn N N' a = N' a := by unfold jn; rw [h]
theorem jn_cases {N N' : Hp} {a : Addr} {o : HO} (h : jn N N' a = some o) : N a = some o ∨ (N a = none ∧ N' a = some o) := by
  cases q : N a with
  | some u => rw [jn_left q] at h; exact .inl h
  | none => rw [jn_right q] at h; exact .inr ⟨rfl, h⟩
theorem Same.tup {H H' : Hp} (s : Same H H') : TupLe H H' := fun a xs h => s a _ h
theorem grow_call {G : Gh} {H H' N : Hp} (w : Wf G H) (s : Same H H') (n : NewIn G.N N H H') : Grow G H (jn G.N N) H' [] ∧ RgLe (RN N) (RN (jn G.N N)) := by
  refine ⟨⟨fun a o h _ => s a o h, fun _ h => absurd h (by simp), Same.tup s, fun a o h => jn_left h, fun a o h => ?_⟩, fun a o h => ?_⟩
  · rcases jn_cases h with h | ⟨h1, h2⟩
    · exact ⟨s a o (w.new a o h).1, .inl h⟩
    · exact ⟨(n a o h2).1, (n a o h2).2.elim .inr .inl⟩
  · show jn G.N N a = some o
    cases q : G.N a with
    | none => rw [jn_right q]; exact h
    | some u =>
      rcases (n a o h).2 with z | z
      · have := (w.new a u q).1
        rw [z] at this
        cases this
      · exact jn_left z
theorem call_end {K : PySem.W.Frag} {G : Gh} {H H' N' : Hp} {σ : St} {Γ : List Sl} (S : Sta K G H σ Γ) (s : Same H H') (n : NewIn G.N N' H H') :
    ∃ G', Sta K G' H' σ Γ ∧ Ext G H G' H' ∧ RgLe (RN N') (rg G' true) := by
  obtain ⟨g, l⟩ := grow_call S.w s n
  obtain ⟨S', e⟩ := S.grow g
  exact ⟨_, S', e, l⟩
def rdW (Γ : List Sl) (j : Nat) : Option PyData := match Γ[j]? with
  | some (.own (.tr T)) => trD T
  | some (.io (.tr T)) => trD T
  | _ => rdD Γ (.s j)
theorem StaA.rdW {K : PySem.W.Frag} {G : Gh} {H : Hp} {σ : St} {Γ : List Sl} {A : Nat → List Addr} {j : Nat} {x : PyData} {v : V} (S : StaA K G H σ Γ A) (h : PD.rdW Γ j = some x) (hv : σ[j]? = some (some v)) :
    Dn K (fun a o => H a = some o ∧ (G.N a = some o ∨ a ∈ A j ∨ G.E a = some o)) H v x := by
  have l : RgLe (RgN G) (fun a o => H a = some o ∧ (G.N a = some o ∨ a ∈ A j ∨ G.E a = some o)) := fun a o z => ⟨(S.w.new a o z).1, .inl z⟩
  unfold PD.rdW at h
  split at h
  · obtain ⟨u, h1, h2, h3⟩ := S.sl j _ ‹_›
    rw [hv] at h1
    cases h1
    exact TreOk.dn l h3.1 (fun a ha o ho => ⟨ho, .inr (.inl ha)⟩) x h
  · obtain ⟨u, h1, h2, h3⟩ := S.sl j _ ‹_›
    rw [hv] at h1
    cases h1
    exact TreOk.dn l h3.1 (fun a ha o ho => ⟨ho, .inr (.inl ha)⟩) x h
  · unfold rdD at h
    simp only at h
    split at h
    · cases h
      obtain ⟨u, h1, h2, p, vs, rfl, hfp, hp, hd⟩ := S.sl j _ ‹_›
      rw [hv] at h1
      cases h1
      exact .lst (.inl ⟨hp, .inr (.inl (by rw [hfp]; simp))⟩) (hd.mono l (TupLe.rf _))
    · cases h
      obtain ⟨u, h1, h2, p, vs, rfl, hfp, hp, hd⟩ := S.sl j _ ‹_›
      rw [hv] at h1
      cases h1
      exact .lst (.inl ⟨hp, .inr (.inl (by rw [hfp]; simp))⟩) (hd.mono l (TupLe.rf _))
    · cases h
      obtain ⟨_, p, o, h1, h2, h3, h4, h5, q, vs, e, _, h6, h7⟩ := S.sl j _ ‹_›
      rw [hv] at h1
      cases h1
      cases e
      rw [h3] at h6
      cases h6
      exact .lst (.inl ⟨h3, .inr (.inr h4)⟩) (h7.mono l (TupLe.rf _))
    · cases h
theorem Sta.rdW {K : PySem.W.Frag} {G : Gh} {H : Hp} {σ : St} {Γ : List Sl} {j : Nat} {x : PyData} {v : V} (S : Sta K G H σ Γ) (h : PD.rdW Γ j = some x) (hv : σ[j]? = some (some v)) : Dn K (fun a o => H a = some o ∧ a ∉ []) H v x := by
  obtain ⟨A, T⟩ := S
  exact (T.rdW h hv).mono (fun a o z => ⟨z.1, by simp⟩) (TupLe.rf _)
def rdDs (Γ : List Sl) (i : Option Nat) : List AV → Option (List PyData)
  | [] => some []
  | .d _ x :: as => (rdDs Γ i as).map (x :: ·)
  | .s j :: as => if some j = i then none else (rdW Γ j).bind fun x => (rdDs Γ i as).map (x :: ·)
theorem rdDs_ok {K : PySem.W.Frag} {G : Gh} {H : Hp} {σ : St} {Γ : List Sl} {i : Option Nat} {fp : List Addr} (S : Sta K G H σ Γ) (hr : ∀ fr a o, rg G fr a o → a ∉ fp) (hs : ∀ (j : Nat) (x : PyData) (v : V), some j ≠ i → rdW Γ j = some x → σ[j]? = some (some v) → Dn K (fun a o => H a = some o ∧ a ∉ fp) H v x) :
    ∀ {as : List AV} {ds : List PyData} {vs : List V}, rdDs Γ i as = some ds → AVs K G H σ vs as → DnA K (fun a o => H a = some o ∧ a ∉ fp) H vs ds
  | [], _, _, h, .nil => by cases h; exact .nil
  | .d fr x :: as, ds, _, h, .cons q r => by
    have h : (rdDs Γ i as).map (x :: ·) = some ds := h
    cases e : rdDs Γ i as with
    | none => rw [e] at h; cases h
    | some xs =>
      rw [e] at h
      cases h
      exact .cons (Dn.mono (fun b o z => ⟨S.w.rgl fr b o z, hr fr b o z⟩) (TupLe.rf _) q) (rdDs_ok S hr hs e r)
  | .s j :: as, ds, _, h, .cons (v := v) q r => by
    unfold rdDs at h
    split at h
    · cases h
    · rename_i hj
      cases e1 : rdW Γ j with
      | none => rw [e1] at h; cases h
      | some x =>
        rw [e1] at h
        have h : (rdDs Γ i as).map (x :: ·) = some ds := h
        cases e : rdDs Γ i as with
        | none => rw [e] at h; cases h
        | some xs =>
          rw [e] at h
          cases h
          exact .cons (hs j x v hj e1 q) (rdDs_ok S hr hs e r)
theorem dna_at {K : PySem.W.Frag} {G : Rg} {H : Hp} {vs : List V} {ds : List PyData} {i : Nat} {x : PyData} (h : DnA K G H vs ds) (hx : (ds.map Ar.d)[i]? = some (.d x)) : ∃ v, vs[i]? = some v ∧ Dn K G H v x := by
  rw [List.getElem?_map] at hx
  cases e : ds[i]? with
  | none => rw [e] at hx; cases hx
  | some y =>
    rw [e] at hx
    cases hx
    exact h.get' e
theorem argsD {K : PySem.W.Frag} {H : Hp} {vs : List V} {ds : List PyData} (h : DnA K (fun a o => H a = some o ∧ a ∉ []) H vs ds) {B : Hp} (hB : ∀ a o, B a = some o → H a = some o) : ArgsU K H vs (ds.map Ar.d) (fun _ => []) [] B where
  len := by rw [List.length_map]; exact h.length
  dat := fun i x hx => dna_at h hx
  cel := fun i c hc => by
    rw [List.getElem?_map] at hc
    cases e : ds[i]? <;> rw [e] at hc <;> cases hc
  emp := fun _ _ => rfl
  all := fun _ _ h => h
  al := fun p h => absurd h (by simp)
  dj := fun i j p h => absurd h (by simp)
  nat := fun i x hx => by
    rw [List.getElem?_map] at hx
    cases e : ds[i]? <;> rw [e] at hx <;> cases hx
  bok := fun a o h => ⟨hB a o h, by simp⟩
def R.atX {α : Type} (Γ : List Sl) : R α → R α
  | .exc x => .exc ⟨x.cls, x.flds, Γ⟩
  | m => m
section
variable {X : Cx} {W : WX} {sc : Scope} {N : List Str} {x : Str} {e : Expr} {es : List Expr} {p pos : Pos} {k : DA} {dvs : List V} {dds : List PyData} {m : List Ar → R (Rs × List Sl)}
theorem callD_core {Γ : List Sl} {G : Gh} {H : Hp} {σ : St} {as : List AV} {ds : List PyData} {vs : List V} {Q : VK} (hdv : ∀ G H, DnA X.K G H dvs dds) (S : Sta X.K G H σ Γ) (av : AVs X.K G H σ vs as) (hd : rdDs Γ none as = some ds)
    (hp : Pst X W G H σ ((m ((ds ++ dds).map Ar.d)).atX Γ) fun z G' H' => Sta X.K G' H' σ Γ → RsOk X.K G'.N H' Q z.1) : spU X.K X.mg m (vs ++ dvs) H Q (fun cls d H => W cls d σ H) := by
  have h1 : DnA X.K (fun a o => H a = some o ∧ a ∉ []) H vs ds := rdDs_ok (i := none) (fp := []) S (fun _ _ _ _ => by simp) (fun _ _ _ _ hr hv => S.rdW hr hv) hd av
  refine ⟨_, _, _, G.N, argsD (h1.append (hdv _ _)) (fun a o h => (S.w.new a o h).1), ?_⟩
  cases hm : m ((ds ++ dds).map Ar.d) with
  | bad => rw [hm] at hp; exact hp
  | exc y =>
    rw [hm] at hp
    intro H' N' F' C d P g1 g2
    obtain ⟨G', S', e', l⟩ := call_end S (fun a o h => P.keep a o h (by simp)) P.new
    refine hp G' H' σ C d e' S' g1 ?_
    rcases g2 with ⟨a, fs, q1, q2, q3, q4⟩ | q
    · exact .inl ⟨a, fs, q1, l _ _ q2, q3, q4.mono l (TupLe.rf _)⟩
    · exact .inr q
  | val z =>
    rw [hm] at hp
    intro H' N' F' P
    obtain ⟨G', S', e', l⟩ := call_end S (fun a o h => P.keep a o h (by simp)) P.new
    have q := hp G' H' e' S'
    cases hz : z.1 with
    | d y => rw [hz] at q; exact fun v hv => q v (hv.mono l (TupLe.rf _))
    | c y => rw [hz] at q; exact fun v H2 ⟨fp, n1, n2, n3⟩ => q v H2 ⟨fp, n1, n2, Cl.mono n3 l (fun _ _ => rfl) (TupLe.rf _)⟩
def rsC : Rs → Option Cl
  | .c x => some x
  | _ => none
end
end PD
set_option Elab.async false
set_option linter.all false
set_option maxRecDepth 100000
set_option maxHeartbeats 4000000
set_option autoImplicit false
namespace PD
open PySem L2
theorem Sta.cellU {K : PySem.W.Frag} {G : Gh} {H : Hp} {σ : St} {Γ : List Sl} {c : Cl} (S : Sta K G H σ Γ) (i : Nat) (io : Bool) (hi : Γ[i]? = some (if io then .io c else .own c)) :
    ∃ v fp, σ[i]? = some (some v) ∧ c.ok K (RgN G) H v fp ∧ (∀ p ∈ fp, H p ≠ none) ∧ (∀ fr a o, rg G fr a o → a ∉ fp) ∧ (∀ (j : Nat) (x : PyData) (u : V), j ≠ i → PD.rdW Γ j = some x → σ[j]? = some (some u) → Dn K (fun a o => H a = some o ∧ a ∉ fp) H u x) ∧
      ∀ H' N' fp' c', (∀ a o, H a = some o → a ∉ fp → H' a = some o) → (∀ a ∈ fp, H' a ≠ none) → TupLe H H' → NewIn G.N N' H H' → c'.ok K (RN N') H' v fp' → (∀ p ∈ fp', H' p ≠ none ∧ N' p = none ∧ (p ∈ fp ∨ H p = none)) →
        ∃ G', Sta K G' H' σ (Γ.set i (if io then .io c' else .own c')) ∧ Ext G H G' H' ∧ RgLe (RN N') (rg G' true) := by
  obtain ⟨A, S⟩ := S
  have key : ∃ v, σ[i]? = some (some v) ∧ c.ok K (RgN G) H v (A i) ∧ (io = true → G.I i = some v) ∧ (io = false → ∀ p ∈ A i, G.H0 p = none) := by
    cases io with
    | true =>
      obtain ⟨v, h1, h2, h3⟩ := S.sl i _ hi
      exact ⟨v, h1, h3, fun _ => h2, fun h => by cases h⟩
    | false =>
      obtain ⟨v, h1, h2, h3⟩ := S.sl i _ hi
      exact ⟨v, h1, h3, fun h => absurd h (by simp), fun _ => h2⟩
  obtain ⟨v, h1, h2, h3, h4⟩ := key
  refine ⟨v, A i, h1, h2, fun p hp => (S.al i p hp).1, fun fr a o h hp => ?_, fun j x u hj hr hu => ?_, fun H' N' fp' c' k1 k2 t n ok f => ?_⟩
  · obtain ⟨_, q1, q2⟩ := S.al i a hp
    cases fr with
    | true =>
      have h : G.N a = some o := h
      rw [q1] at h; cases h
    | false =>
      rcases h with h | ⟨h, h'⟩
      · rw [q1] at h; cases h
      · rcases q2 with q2 | q2
        · exact h' q2
        · rw [q2] at h; cases h
  · refine (S.rdW hr hu).mono (fun a o z => ⟨z.1, fun hp => ?_⟩) (TupLe.rf _)
    rcases z.2 with z | z | z
    · rw [(S.al i a hp).2.1] at z; cases z
    · exact hj (S.dj j i a z hp)
    · rw [S.ae i a hp] at z; cases z
  · have g : Grow G H (jn G.N N') H' (A i) := by
      refine ⟨k1, k2, t, fun a o h => jn_left h, fun a o h => ?_⟩
      rcases jn_cases h with h | ⟨_, h⟩
      · refine ⟨k1 a o (S.w.new a o h).1 fun hp => ?_, .inl h⟩
        rw [(S.al i a hp).2.1] at h; cases h
      · exact ⟨(n a o h).1, (n a o h).2.elim .inr .inl⟩
    have l : RgLe (RN N') (RN (jn G.N N')) := fun a o h => by
      show jn G.N N' a = some o
      cases q : G.N a with
      | none => rw [jn_right q]; exact h
      | some u =>
        rcases (n a o h).2 with z | z
        · have := (S.w.new a u q).1
          rw [z] at this
          cases this
        · exact jn_left z
    have f2 : ∀ p ∈ fp', H' p ≠ none ∧ jn G.N N' p = none ∧ (p ∈ A i ∨ H p = none) := fun p hp => by
      obtain ⟨q1, q2, q3⟩ := f p hp
      refine ⟨q1, ?_, q3⟩
      have : G.N p = none := by
        rcases q3 with q3 | q3
        · exact (S.al i p q3).2.1
        · exact (S.w.fresh q3).1
      rw [jn_right this]
      exact q2
    obtain ⟨S', e⟩ := S.step (i := i) (fp' := fp') (s' := if io then .io c' else .own c') (σ' := σ) g (fun p hp => hp) (fun j hj => rfl) rfl (fun hlt => by
      cases io with
      | true => exact ⟨v, h1, h3 rfl, Cl.mono ok l (fun _ _ => rfl) (TupLe.rf _)⟩
      | false =>
        refine ⟨v, h1, fun p hp => ?_, Cl.mono ok l (fun _ _ => rfl) (TupLe.rf _)⟩
        rcases (f p hp).2.2 with q | q
        · exact h4 rfl p q
        · exact (S.w.fresh q).2.1) f2
    exact ⟨_, S', e, l⟩
def cellAt (Γ : List Sl) (i : Nat) : Option (Bool × Cl) := match Γ[i]? with
  | some (.own c) => some (false, c)
  | some (.io c) => some (true, c)
  | _ => none
theorem cellAt_ok {Γ : List Sl} {i : Nat} {z : Bool × Cl} (h : cellAt Γ i = some z) : Γ[i]? = some (if z.1 then .io z.2 else .own z.2) := by
  unfold cellAt at h
  split at h
  · cases h; exact ‹_›
  · cases h; exact ‹_›
  · cases h
def pickC (n : Nat) (as : List AV) : Option Nat := match as[n]? with
  | some (.s i) => some i
  | _ => none
def insC (n : Nat) (c : Cl) (ds : List PyData) : List Ar := (ds.take n).map Ar.d ++ .c c :: (ds.drop n).map Ar.d
def ioAt (n : Nat) (Z : List Sl) : Option Cl := match Z[n]? with
  | some (.io c) => some c
  | _ => none
theorem ioAt_ok {n : Nat} {Z : List Sl} {c : Cl} (h : ioAt n Z = some c) : Z[n]? = some (.io c) := by
  unfold ioAt at h
  split at h
  · cases h; exact ‹_›
  · cases h
def R.atC (n : Nat) (Γ : List Sl) (i : Nat) (io : Bool) : R (Rs × List Sl) → R (Rs × List Sl)
  | .bad => .bad
  | .exc x => (R.ofO (ioAt n x.st)).bind fun c => .exc ⟨x.cls, x.flds, Γ.set i (mkS io c)⟩
  | .val z => (R.ofO (ioAt n z.2)).bind fun c => .val (z.1, Γ.set i (mkS io c))
theorem avs_erase {K : PySem.W.Frag} {G : Gh} {H : Hp} {σ : St} : ∀ {n i : Nat} {as : List AV} {vs : List V}, AVs K G H σ vs as → as[n]? = some (.s i) → ∃ v v1 v2, vs = v1 ++ v :: v2 ∧ v1.length = n ∧ σ[i]? = some (some v) ∧ AVs K G H σ (v1 ++ v2) (as.eraseIdx n)
  | 0, i, _, _, .cons (v := v) (vs := vs) h r, e => by
    cases e
    exact ⟨v, [], vs, rfl, rfl, h, r⟩
  | n + 1, i, _, _, .cons (v := u) h r, e => by
    obtain ⟨v, v1, v2, rfl, h1, h2, h3⟩ := avs_erase (n := n) r (by simpa using e)
    exact ⟨v, u :: v1, v2, rfl, by simp [h1], h2, .cons h h3⟩
  | _, _, _, _, .nil, e => by simp at e
theorem dna_split {K : PySem.W.Frag} {G : Rg} {H : Hp} : ∀ {v1 v2 : List V} {ds : List PyData}, DnA K G H (v1 ++ v2) ds → DnA K G H v1 (ds.take v1.length) ∧ DnA K G H v2 (ds.drop v1.length)
  | [], v2, ds, h => ⟨.nil, h⟩
  | v :: v1, v2, _, .cons h r => by
    obtain ⟨q1, q2⟩ := dna_split (v1 := v1) r
    exact ⟨.cons h q1, q2⟩
theorem argsC {K : PySem.W.Frag} {H : Hp} {v1 v2 : List V} {v : V} {ds : List PyData} {c : Cl} {fp : List Addr} (h : DnA K (fun a o => H a = some o ∧ a ∉ fp) H (v1 ++ v2) ds) {B : Hp} (hc : c.ok K (RN B) H v fp) (al : ∀ p ∈ fp, H p ≠ none) (hB : ∀ a o, B a = some o → H a = some o ∧ a ∉ fp) :
    ArgsU K H (v1 ++ v :: v2) (insC v1.length c ds) (fun i => if i = v1.length then fp else []) fp B := by
  obtain ⟨h1, h2⟩ := dna_split h
  have l1 := h1.length
  have l2 := h2.length
  have e1 : ((ds.take v1.length).map Ar.d).length = v1.length := by rw [List.length_map]; exact l1.symm
  refine ⟨?_, fun i x hx => ?_, fun i c' hc' => ?_, fun i hi => ?_, fun i p hp => ?_, al, fun i j p hi hj => ?_, fun i x hx => ?_, hB⟩
  · unfold insC
    rw [List.length_append, List.length_append, List.length_cons, List.length_cons, e1, List.length_map, ← l2]
  · unfold insC at hx
    by_cases hlt : i < v1.length
    · rw [List.getElem?_append_left (by rw [e1]; exact hlt)] at hx
      rw [List.getElem?_append_left hlt]
      exact dna_at h1 hx
    · rw [List.getElem?_append_right (by rw [e1]; omega), e1] at hx
      rw [List.getElem?_append_right (by omega)]
      cases hk : i - v1.length with
      | zero => rw [hk] at hx; cases hx
      | succ q =>
        rw [hk, List.getElem?_cons_succ] at hx
        rw [List.getElem?_cons_succ]
        exact dna_at h2 hx
  · unfold insC at hc'
    by_cases hlt : i < v1.length
    · rw [List.getElem?_append_left (by rw [e1]; exact hlt), List.getElem?_map] at hc'
      cases e : (ds.take v1.length)[i]? <;> rw [e] at hc' <;> cases hc'
    · rw [List.getElem?_append_right (by rw [e1]; omega), e1] at hc'
      cases hk : i - v1.length with
      | zero =>
        rw [hk] at hc'
        cases hc'
        have : i = v1.length := by omega
        subst this
        exact ⟨v, by simp, by rw [if_pos rfl]; exact hc⟩
      | succ q =>
        rw [hk, List.getElem?_cons_succ, List.getElem?_map] at hc'
        cases e : (ds.drop v1.length)[q]? <;> rw [e] at hc' <;> cases hc'
  · by_cases e : i = v1.length
    · subst e
      refine absurd ?_ (hi c)
      unfold insC
      rw [List.getElem?_append_right (by rw [e1]; exact Nat.le_refl _), e1, Nat.sub_self]
      rfl
    · exact if_neg e
  · by_cases e : i = v1.length
    · rw [if_pos e] at hp; exact hp
    · rw [if_neg e] at hp; cases hp
  · by_cases e : i = v1.length
    · by_cases e' : j = v1.length
      · rw [e, e']
      · rw [if_neg e'] at hj; cases hj
    · rw [if_neg e] at hi; cases hi
  · unfold insC at hx
    by_cases hlt : i < v1.length
    · rw [List.getElem?_append_left (by rw [e1]; exact hlt), List.getElem?_map] at hx
      cases e : (ds.take v1.length)[i]? <;> rw [e] at hx <;> cases hx
    · rw [List.getElem?_append_right (by rw [e1]; omega), e1] at hx
      cases hk : i - v1.length with
      | zero => rw [hk] at hx; cases hx
      | succ q =>
        rw [hk, List.getElem?_cons_succ, List.getElem?_map] at hx
        cases e : (ds.drop v1.length)[q]? <;> rw [e] at hx <;> cases hx
section
variable {X : Cx} {W : WX} {sc : Scope} {N : List Str} {x : Str} {e : Expr} {es : List Expr} {p pos : Pos} {k : DA} {dvs : List V} {dds : List PyData} {m : List Ar → R (Rs × List Sl)}
theorem callC_core {Γ : List Sl} {G : Gh} {H : Hp} {σ : St} {as : List AV} {ds : List PyData} {vs : List V} {Q : VK} {n i : Nat} {ic : Bool × Cl} (hdv : ∀ G H, DnA X.K G H dvs dds) (S : Sta X.K G H σ Γ) (av : AVs X.K G H σ vs as) (hn : pickC n as = some i) (hc : cellAt Γ i = some ic) (hd : rdDs Γ (some i) (as.eraseIdx n) = some ds) (hfl : ic.2.fl = true)
    (hp : Pst X W G H σ ((m (insC n ic.2 (ds ++ dds))).atC n Γ i ic.1) fun z G' H' => Sta X.K G' H' σ z.2 → RsOk X.K G'.N H' Q z.1) : spU X.K X.mg m (vs ++ dvs) H Q (fun cls d H => W cls d σ H) := by
  have hn' : as[n]? = some (.s i) := by
    unfold pickC at hn
    split at hn
    · cases hn; exact ‹_›
    · cases hn
  obtain ⟨v, v1, v2, rfl, hv1, hv, av2⟩ := avs_erase av hn'
  obtain ⟨v', fp, g1, g2, g3, g4, g5, g6⟩ := S.cellU i ic.1 (cellAt_ok hc)
  rw [hv] at g1
  cases g1
  have h1 : DnA X.K (fun a o => H a = some o ∧ a ∉ fp) H (v1 ++ v2) ds := rdDs_ok (i := some i) (fp := fp) S g4 (fun j x u hj hr hu => g5 j x u (fun z => hj (by rw [z])) hr hu) hd av2
  have h2 : DnA X.K (fun a o => H a = some o ∧ a ∉ fp) H (v1 ++ (v2 ++ dvs)) (ds ++ dds) := by
    rw [← List.append_assoc]
    exact h1.append (hdv _ _)
  subst hv1
  refine ⟨_, _, _, G.N, by rw [List.append_assoc, List.cons_append]; exact argsC h2 g2 g3 (fun a o h => ⟨(S.w.new a o h).1, g4 true a o h⟩), ?_⟩
  have key : ∀ H' N' F' Z c', PostU X.K H (v1 ++ v :: v2 ++ dvs) (fun i => if i = v1.length then fp else []) fp G.N H' N' Z F' → ioAt v1.length Z = some c' → ∃ G', Sta X.K G' H' σ (Γ.set i (mkS ic.1 c')) ∧ Ext G H G' H' ∧ RgLe (RN N') (rg G' true) := fun H' N' F' Z c' P hz => by
    obtain ⟨u, q1, q2⟩ := P.cel _ _ (ioAt_ok hz)
    have : u = v := by
      rw [List.append_assoc, List.getElem?_append_right (Nat.le_refl _), Nat.sub_self] at q1
      exact (Option.some.inj q1).symm
    subst this
    exact g6 H' N' (F' v1.length) c' P.keep P.pal P.t P.new q2 fun p hp => P.al _ p hp
  cases hm : m (insC v1.length ic.2 (ds ++ dds)) with
  | bad => rw [hm] at hp; exact hp
  | exc y =>
    rw [hm] at hp
    intro H' N' F' C d P k1 k2
    obtain ⟨c', hz, hp⟩ := Pst.ofO (show Pst X W G H σ ((R.ofO (ioAt v1.length y.st)).bind fun c => .exc ⟨y.cls, y.flds, Γ.set i (mkS ic.1 c)⟩) _ from hp)
    obtain ⟨G', S', e', l⟩ := key H' N' F' y.st c' P hz
    refine hp G' H' σ C d e' S' k1 ?_
    rcases k2 with ⟨a, fs, q1, q2, q3, q4⟩ | q
    · exact .inl ⟨a, fs, q1, l _ _ q2, q3, q4.mono l (TupLe.rf _)⟩
    · exact .inr q
  | val z =>
    rw [hm] at hp
    intro H' N' F' P
    obtain ⟨c', hz, hp⟩ := Pst.ofO (show Pst X W G H σ ((R.ofO (ioAt v1.length z.2)).bind fun c => .val (z.1, Γ.set i (mkS ic.1 c))) _ from hp)
    obtain ⟨G', S', e', l⟩ := key H' N' F' z.2 c' P hz
    have q := hp G' H' e' S'
    simp only at q
    cases hz : z.1 with
    | d y => rw [hz] at q; exact fun v hv => q v (hv.mono l (TupLe.rf _))
    | c y => rw [hz] at q; exact fun v H2 ⟨fp, n1, n2, n3⟩ => q v H2 ⟨fp, n1, n2, Cl.mono n3 l (fun _ _ => rfl) (TupLe.rf _)⟩
def preC (n : Nat) (dds : List PyData) (z : List AV × List Sl) : R (Nat × Bool × List Ar) := (R.ofO (pickC n z.1)).bind fun i => (R.ofO (cellAt z.2 i)).bind fun ic => (R.ofO (rdDs z.2 (some i) (z.1.eraseIdx n))).bind fun ds => (R.req ic.2.fl).bind fun _ => .val (i, ic.1, insC n ic.2 (ds ++ dds))
theorem preC_ok {n : Nat} {z : List AV × List Sl} {G : Gh} {H : Hp} {σ : St} {τ : Type} {q : Nat × Bool × List Ar → R τ} {P : τ → Gh → Hp → Prop} (h : Pst X W G H σ ((preC n dds z).bind q) P) : ∃ i ic ds, pickC n z.1 = some i ∧ cellAt z.2 i = some ic ∧ rdDs z.2 (some i) (z.1.eraseIdx n) = some ds ∧ ic.2.fl = true ∧ Pst X W G H σ (q (i, ic.1, insC n ic.2 (ds ++ dds))) P := by
  unfold preC at h
  rw [R.bind_assoc] at h
  obtain ⟨i, h1, h⟩ := Pst.ofO h
  rw [R.bind_assoc] at h
  obtain ⟨ic, h2, h⟩ := Pst.ofO h
  rw [R.bind_assoc] at h
  obtain ⟨ds, h3, h⟩ := Pst.ofO h
  rw [R.bind_assoc] at h
  obtain ⟨h4, h⟩ := Pst.req h
  exact ⟨i, ic, ds, h1, h2, h3, h4, h⟩
end
end PD
set_option Elab.async false
set_option linter.all false
set_option maxRecDepth 100000
set_option maxHeartbeats 4000000
set_option autoImplicit false
namespace PD
open PySem PySem.Spec PyProof.Rows L2
section
variable {P : Program} {w : World} {A : Around} {E : Value → Shared → Prop} {s : Shared}
end
end PD
set_option Elab.async false
set_option linter.all false
set_option maxRecDepth 100000
set_option maxHeartbeats 4000000
set_option autoImplicit false
namespace PD
open PySem PySem.Spec PyProof.Rows L2
theorem rise_ext : ∀ {xs ys : List Int}, xs.Pairwise (· < ·) → ys.Pairwise (· < ·) → (∀ k, k ∈ xs ↔ k ∈ ys) → xs = ys
  | [], [], _, _, _ => rfl
  | [], y :: ys, _, _, h => absurd ((h y).2 (by simp)) (by simp)
  | x :: xs, [], _, _, h => absurd ((h x).1 (by simp)) (by simp)
  | x :: xs, y :: ys, hx, hy, h => by
    have hx' := List.pairwise_cons.mp hx
    have hy' := List.pairwise_cons.mp hy
    have e : x = y := by
      rcases List.mem_cons.mp ((h x).1 (by simp)) with z | z
      · exact z
      · rcases List.mem_cons.mp ((h y).2 (by simp)) with z' | z'
        · exact z'.symm
        · have a := hx'.1 y z'
          have b := hy'.1 x z
          omega
    subst e
    rw [rise_ext hx'.2 hy'.2 fun k => ?_]
    constructor
    · intro z
      rcases List.mem_cons.mp ((h k).1 (by simp [z])) with q | q
      · have := hx'.1 k z; omega
      · exact q
    · intro z
      rcases List.mem_cons.mp ((h k).2 (by simp [z])) with q | q
      · have := hy'.1 k z; omega
      · exact q
end PD
set_option Elab.async false
set_option linter.all false
set_option maxRecDepth 100000
set_option maxHeartbeats 4000000
set_option autoImplicit false
namespace PD
open PySem L2
section
variable {X : Cx} {W : WX} {sc : Scope} {N : List Str} {Γ : List Sl} {e : Expr} {es : List Expr} {pos p : Pos} {α γ : Type} {ma : R α} {as : α → List AV} {Γ1 : α → List Sl}
theorem ev_callB (C : Cf0 X W sc N) {x : Str} {id : String} {r : List V → Hp → VK → Prop} {k : α → R γ} {av : γ → AV} {Γk : γ → List Sl} (hc : CallR X (.builtin id) r) (hg : glB sc x = true) (hm : X.mg x = none) (hv : bootBuiltins x = some (.builtin id)) (ha : EvA X W Γ (e :: es) ma as Γ1)
    (hk : ∀ a G H σ vs Q, Sta X.K G H σ (Γ1 a) → AVs X.K G H σ vs (as a) → Pst X W G H σ (k a) (fun z G' H' => ∀ w, Sta X.K G' H' σ (Γk z) → AVok X.K G' H' σ w (av z) → Q w H') → r vs H Q)
    (hn : x ≠ "__name__" := by decide +kernel) (hdb : (x == ("__debug__" : Str)) = false := by decide +kernel) (he : starEach (e :: es) X.env = (false, eval e X.env) :: starEach es X.env := by rfl) (hpl : (backTo pos (starEach es X.env)).any (·.1) = false := by rfl) :
    Ev X W Γ (.Call (.Name x p) (e :: es) [] pos) (ma.bind k) av Γk :=
  pe_imp (pe_callB hc (C.gl hg) hm hv ha hn hdb he hpl) fun σ H Q ⟨G, S, p⟩ => ⟨G, S, (Pst.bind p).imp fun a G1 H1 e1 p1 vs S1 h1 => hk a G1 H1 σ vs Q S1 h1 p1⟩
theorem ev_callT (C : Cf0 X W sc N) {x : Str} {T : String} {r : List V → Hp → VK → Prop} {k : α → R γ} {av : γ → AV} {Γk : γ → List Sl} (hc : CallR X (.type T) r) (hg : glB sc x = true) (hm : X.mg x = none) (hv : bootBuiltins x = some (.type T)) (ha : EvA X W Γ (e :: es) ma as Γ1)
    (hk : ∀ a G H σ vs Q, Sta X.K G H σ (Γ1 a) → AVs X.K G H σ vs (as a) → Pst X W G H σ (k a) (fun z G' H' => ∀ w, Sta X.K G' H' σ (Γk z) → AVok X.K G' H' σ w (av z) → Q w H') → r vs H Q)
    (hn : x ≠ "__name__" := by decide +kernel) (hdb : (x == ("__debug__" : Str)) = false := by decide +kernel) (he : starEach (e :: es) X.env = (false, eval e X.env) :: starEach es X.env := by rfl) (hpl : (backTo pos (starEach es X.env)).any (·.1) = false := by rfl) :
    Ev X W Γ (.Call (.Name x p) (e :: es) [] pos) (ma.bind k) av Γk :=
  pe_imp (pe_callTy hc (C.gl hg) hm hv ha hn hdb he hpl) fun σ H Q ⟨G, S, p⟩ => ⟨G, S, (Pst.bind p).imp fun a G1 H1 e1 p1 vs S1 h1 => hk a G1 H1 σ vs Q S1 h1 p1⟩
end
def intsOf : List PyData → Option (List Int)
  | [] => some []
  | .int i :: ds => (intsOf ds).map (i :: ·)
  | _ => none
theorem intsOf_eq : ∀ {ds : List PyData} {ns : List Int}, intsOf ds = some ns → ds = ns.map PyData.int
  | [], _, h => by cases h; rfl
  | .int i :: ds, ns, h => by
    unfold intsOf at h
    cases e : intsOf ds with
    | none => rw [e] at h; cases h
    | some ms => rw [e] at h; cases h; rw [intsOf_eq e]; rfl
  | .none :: _, _, h => by cases h
  | .bool _ :: _, _, h => by cases h
  | .str _ :: _, _, h => by cases h
  | .list _ :: _, _, h => by cases h
  | .tuple _ :: _, _, h => by cases h
  | .dict _ :: _, _, h => by cases h
theorem intsOf_map : ∀ ns : List Int, intsOf (ns.map PyData.int) = some ns
  | [] => rfl
  | n :: ns => by simp [intsOf, intsOf_map ns]
section
variable {X : Cx} {W : WX} {sc : Scope} {N : List Str} {a b c e : Expr} {es : List Expr} {pos p : Pos} {f g : DF} {k : DA}
theorem callR_or {v : Value} {r1 r2 : List V → Hp → VK → Prop} (h1 : CallR X v r1) (h2 : CallR X v r2) : CallR X v (fun vs H Q => r1 vs H Q ∨ r2 vs H Q) := fun pins s σ H xs us Q I rv z => z.elim (h1 pins s σ H xs us Q I rv) (h2 pins s σ H xs us Q I rv)
def dB (q : List Sl → List AV → R AV) (k : DA) : DF := fun Γ => (k Γ).bind fun z => (q z.2 z.1).bind fun y => .val (y, z.2)
theorem ce_bB (C : Cf0 X W sc N) {x : Str} {id : String} {r : List V → Hp → VK → Prop} (q : List Sl → List AV → R AV) (hc : CallR X (.builtin id) r) (hg : glB sc x = true) (hm : X.mg x = none) (hv : bootBuiltins x = some (.builtin id)) (ha : CA X W (e :: es) k)
    (hk : ∀ as Γ2 G H σ vs Q, Sta X.K G H σ Γ2 → AVs X.K G H σ vs as → Pk X W G H σ ((q Γ2 as).bind fun y => .val (y, Γ2)) Q → r vs H Q)
    (hn : x ≠ "__name__" := by decide +kernel) (hdb : (x == ("__debug__" : Str)) = false := by decide +kernel) (he : starEach (e :: es) X.env = (false, eval e X.env) :: starEach es X.env := by rfl) (hpl : (backTo pos (starEach es X.env)).any (·.1) = false := by rfl) :
    CE X W (.Call (.Name x p) (e :: es) [] pos) (dB q k) := fun Γ => ev_callB (k := fun z : List AV × List Sl => (q z.2 z.1).bind fun y => .val (y, z.2)) C hc hg hm hv (ha Γ) (fun z G H σ vs Q S h p => hk z.1 z.2 G H σ vs Q S h p) hn hdb he hpl
theorem ce_bT (C : Cf0 X W sc N) {x : Str} {id : String} {r : List V → Hp → VK → Prop} (q : List Sl → List AV → R AV) (hc : CallR X (.type id) r) (hg : glB sc x = true) (hm : X.mg x = none) (hv : bootBuiltins x = some (.type id)) (ha : CA X W (e :: es) k)
    (hk : ∀ as Γ2 G H σ vs Q, Sta X.K G H σ Γ2 → AVs X.K G H σ vs as → Pk X W G H σ ((q Γ2 as).bind fun y => .val (y, Γ2)) Q → r vs H Q)
    (hn : x ≠ "__name__" := by decide +kernel) (hdb : (x == ("__debug__" : Str)) = false := by decide +kernel) (he : starEach (e :: es) X.env = (false, eval e X.env) :: starEach es X.env := by rfl) (hpl : (backTo pos (starEach es X.env)).any (·.1) = false := by rfl) :
    CE X W (.Call (.Name x p) (e :: es) [] pos) (dB q k) := fun Γ => ev_callT (k := fun z : List AV × List Sl => (q z.2 z.1).bind fun y => .val (y, z.2)) C hc hg hm hv (ha Γ) (fun z G H σ vs Q S h p => hk z.1 z.2 G H σ vs Q S h p) hn hdb he hpl
def Pn (X : Cx) (W : WX) (G : Gh) (H : Hp) (σ : St) (m : R (List PyData × List Sl)) (Q : VK) : Prop := Pst X W G H σ m fun z G' H' => ∀ q ws, Sta X.K G' H' σ z.2 → H' q = none → DnA X.K (rg G' true) H' ws z.1 → Q (.ref q) (upd H' q (.lst ws))
def dBN (q : List Sl → List AV → R (List PyData)) (k : DA) : DN := fun Γ => (k Γ).bind fun z => (q z.2 z.1).bind fun y => .val (y, z.2)
theorem Pn.v {G : Gh} {H : Hp} {σ : St} {ds : List PyData} {Γ : List Sl} {Q : VK} (h : Pn X W G H σ (.val (ds, Γ)) Q) (S : Sta X.K G H σ Γ) {q : Addr} {ws : List V} (hq : H q = none) (hd : DnA X.K (rg G true) H ws ds) : Q (.ref q) (upd H q (.lst ws)) := h G H (Ext.rf S.w) q ws S hq hd
def kLen (Γ : List Sl) : List AV → R AV
  | [x] => match rdD Γ x with
    | some (.list ds) => .val (.d true (.int (ds.length : Nat)))
    | some (.tuple ds) => .val (.d true (.int (ds.length : Nat)))
    | some (.str z) => gq (decide (z.length ≤ sizeLine)) (.d true (.int (z.length : Nat)))
    | _ => .bad
  | _ => .bad
theorem ce_len (C : Cf0 X W sc N) (hg : glB sc "len" = true) (hm : X.mg "len" = none) (ha : CA X W [e] k) (he : starEach [e] X.env = (false, eval e X.env) :: starEach [] X.env := by rfl) : CE X W (.Call (.Name "len" p) [e] [] pos) (dB kLen k) :=
  ce_bB C kLen (callR_or call_len_seq call_len_str) hg hm PySem.boot_len ha (fun as Γ2 G H σ vs Q S h q => by
    unfold kLen at q
    split at q
    · obtain ⟨v, rfl, hv⟩ := avs_one h
      split at q
      · rename_i ds hd
        obtain ⟨l, xs, rfl, g1, g2⟩ := dn_list ((rdD_ok hd).ok S hv)
        refine .inl ⟨l, xs, rfl, .inl g1.sq, Pk.v q S ?_⟩
        rw [g2.length]
        exact .int _
      · rename_i ds hd
        obtain ⟨l, xs, rfl, g1, g2⟩ := dn_tuple ((rdD_ok hd).ok S hv)
        refine .inl ⟨l, xs, rfl, .inr g1, Pk.v q S ?_⟩
        rw [g2.length]
        exact .int _
      · rename_i z hd
        rcases gq_cases (decide (z.length ≤ sizeLine)) (AV.d true (.int (z.length : Nat))) with e | ⟨hc, e⟩
        · rw [e] at q; exact q.elim
        · rw [e] at q
          exact .inr ⟨z, by rw [dn_str ((rdD_ok hd).ok S hv)], of_decide_eq_true hc, Pk.v q S (.int _)⟩
      · exact q.elim
    · exact q.elim) (by decide +kernel) (by decide +kernel) he
def kMax2 (_ : List Sl) : List AV → R AV
  | [.d _ (.int i), .d _ (.int j)] => .val (.d true (.int (max2 i j)))
  | _ => .bad
def kMin2 (_ : List Sl) : List AV → R AV
  | [.d _ (.int i), .d _ (.int j)] => .val (.d true (.int (min2 i j)))
  | _ => .bad
theorem ce_max2 (C : Cf X W sc N) (hg : glB sc "max" = true) (hm : X.mg "max" = none) (ha : CA X W (e :: es) k) (he : starEach (e :: es) X.env = (false, eval e X.env) :: starEach es X.env := by rfl) (hpl : (backTo pos (starEach es X.env)).any (·.1) = false := by rfl) : CE X W (.Call (.Name "max" p) (e :: es) [] pos) (dB kMax2 k) :=
  ce_bB C.toCf0 kMax2 (call_max2 C.calm) hg hm PyProof.Rows.boot_max ha (fun as Γ2 G H σ vs Q S h q => by
    unfold kMax2 at q
    split at q
    · obtain ⟨v, u, rfl, q1, q2⟩ := avs_two h
      exact ⟨_, _, by rw [dn_int q1, dn_int q2], Pk.v q S (.int _)⟩
    · exact q.elim) (by decide +kernel) (by decide +kernel) he hpl
def rdInts (Γ : List Sl) (x : AV) : Option (List Int) := match rdD Γ x with
  | some (.list ds) => intsOf ds
  | _ => none
theorem rdInts_ok {G : Gh} {H : Hp} {σ : St} {Γ : List Sl} {x : AV} {v : V} {ns : List Int} (S : Sta X.K G H σ Γ) (hv : AVok X.K G H σ v x) (h : rdInts Γ x = some ns) : ∃ l, v = .ref l ∧ SqL X.K H l (ns.map V.int) := by
  unfold rdInts at h
  split at h
  · rename_i ds hd
    obtain ⟨l, xs, rfl, g1, g2⟩ := dn_list ((rdD_ok hd).ok S hv)
    rw [intsOf_eq h] at g2
    rw [dna_ints g2] at g1
    exact ⟨l, rfl, g1.sq⟩
  · cases h
theorem ofO_cases {α β : Type} {o : Option α} {k : α → R β} : (∃ y, o = some y ∧ (R.ofO o).bind k = k y) ∨ (R.ofO o).bind k = .bad := by
  cases o with
  | none => exact .inr rfl
  | some y => exact .inl ⟨y, rfl, rfl⟩
def maxL : List Int → Option Int
  | [] => none
  | n :: ns => some (ns.foldl max2 n)
theorem fold_max : ∀ (ns : List Int) (n : Int), n ≤ ns.foldl max2 n ∧ (∀ y ∈ ns, y ≤ ns.foldl max2 n) ∧ (ns.foldl max2 n = n ∨ ns.foldl max2 n ∈ ns)
  | [], n => ⟨Int.le_refl _, by simp, .inl rfl⟩
  | m :: ns, n => by
    obtain ⟨h1, h2, h3⟩ := fold_max ns (max2 n m)
    rw [List.foldl_cons]
    have hn : n ≤ max2 n m ∧ m ≤ max2 n m ∧ (max2 n m = n ∨ max2 n m = m) := by unfold max2; split <;> omega
    refine ⟨by omega, fun y hy => ?_, ?_⟩
    · rcases List.mem_cons.mp hy with rfl | hy
      · omega
      · exact h2 y hy
    · rcases h3 with h3 | h3
      · rw [h3]; rcases hn.2.2 with e | e
        · exact .inl e
        · exact .inr (by rw [e]; simp)
      · exact .inr (by simp [h3])
theorem maxL_ok {ns : List Int} {m : Int} (h : maxL ns = some m) : 0 < ns.length ∧ m ∈ ns ∧ ∀ y ∈ ns, y ≤ m := by
  cases ns with
  | nil => cases h
  | cons n ns =>
    cases h
    obtain ⟨h1, h2, h3⟩ := fold_max ns n
    refine ⟨by simp, by rcases h3 with e | e <;> simp [e], fun y hy => ?_⟩
    rcases List.mem_cons.mp hy with rfl | hy
    · exact h1
    · exact h2 y hy
def kMax1 (Γ : List Sl) : List AV → R AV
  | [x] => (R.ofO ((rdInts Γ x).bind maxL)).bind fun m => .val (.d true (.int m))
  | _ => .bad
theorem ce_max1 (C : Cf X W sc N) (hg : glB sc "max" = true) (hm : X.mg "max" = none) (ha : CA X W [e] k) (he : starEach [e] X.env = (false, eval e X.env) :: starEach [] X.env := by rfl) : CE X W (.Call (.Name "max" p) [e] [] pos) (dB kMax1 k) :=
  ce_bB C.toCf0 kMax1 (cr_max C.calm) hg hm PyProof.Rows.boot_max ha (fun as Γ2 G H σ vs Q S h q => by
    unfold kMax1 at q
    split at q
    · rename_i x
      obtain ⟨v, rfl, hv⟩ := avs_one h
      rcases ofO_cases (o := (rdInts Γ2 x).bind maxL) (k := fun m => R.val (AV.d true (.int m))) with ⟨m, e1, e2⟩ | e2
      · rw [e2] at q
        cases hns : rdInts Γ2 x with
        | none => rw [hns] at e1; cases e1
        | some ns =>
          rw [hns] at e1
          obtain ⟨l, rfl, hs⟩ := rdInts_ok S hv hns
          obtain ⟨h0, h1, h2⟩ := maxL_ok e1
          refine ⟨l, ns, rfl, hs, h0, fun m' hm' hb => ?_⟩
          have : m' = m := Int.le_antisymm (h2 m' hm') (hb m h1)
          subst this
          exact Pk.v q S (.int _)
      · rw [e2] at q; exact q.elim
    · exact q.elim) (by decide +kernel) (by decide +kernel) he
def rdSeq (Γ : List Sl) : AV → Option (List PyData × Bool)
  | .d fr (.list ds) => some (ds, fr)
  | .d fr (.tuple ds) => some (ds, fr)
  | .s i => match rdD Γ (.s i) with
    | some (.list ds) => some (ds, true)
    | _ => none
  | _ => none
theorem rdSeq_ok {G : Gh} {H : Hp} {σ : St} {Γ : List Sl} {x : AV} {v : V} {z : List PyData × Bool} (S : Sta X.K G H σ Γ) (hv : AVok X.K G H σ v x) (h : rdSeq Γ x = some z) : ∃ l xs, v = .ref l ∧ (SqL X.K H l xs ∨ H l = some (.tup xs)) ∧ DnA X.K (rg G z.2) H xs z.1 := by
  unfold rdSeq at h
  split at h
  · cases h
    obtain ⟨l, xs, rfl, g1, g2⟩ := dn_list hv
    exact ⟨l, xs, rfl, .inl (g1.mono (S.w.rgl _)).sq, g2⟩
  · cases h
    obtain ⟨l, xs, rfl, g1, g2⟩ := dn_tupleH hv
    exact ⟨l, xs, rfl, .inr g1, g2⟩
  · split at h
    · rename_i ds hd
      cases h
      obtain ⟨l, xs, rfl, g1, g2⟩ := S.slotL hd hv
      exact ⟨l, xs, rfl, .inl (SqL.of g1), g2⟩
    · cases h
  · cases h
def kTuple (Γ : List Sl) : List AV → R AV
  | [x] => (R.ofO (rdSeq Γ x)).bind fun z => .val (.d z.2 (.tuple z.1))
  | _ => .bad
theorem ce_tuple (C : Cf0 X W sc N) (hg : glB sc "tuple" = true) (hm : X.mg "tuple" = none) (ha : CA X W [e] k) (he : starEach [e] X.env = (false, eval e X.env) :: starEach [] X.env := by rfl) : CE X W (.Call (.Name "tuple" p) [e] [] pos) (dB kTuple k) :=
  ce_bT C kTuple call_tuple_of hg hm PyProof.Rows.boot_tuple ha (fun as Γ2 G H σ vs Q S h q => by
    unfold kTuple at q
    split at q
    · rename_i x
      obtain ⟨v, rfl, hv⟩ := avs_one h
      rcases ofO_cases (o := rdSeq Γ2 x) (k := fun z => R.val (AV.d z.2 (.tuple z.1))) with ⟨z, e1, e2⟩ | e2
      · rw [e2] at q
        obtain ⟨l, xs, rfl, hs, hd⟩ := rdSeq_ok S hv e1
        refine ⟨l, xs, rfl, hs.imp (fun hs => ⟨hs, fun l' hl => ?_⟩) fun hs => ⟨SqT.of hs, Pk.v q S (.tup hs hd)⟩⟩
        obtain ⟨G2, S2, e2, h2⟩ := S.newTup hl hd
        exact Pk.v' q e2 S2 h2
      · rw [e2] at q; exact q.elim
    · exact q.elim) (by decide +kernel) (by decide +kernel) he
def kList (Γ : List Sl) : List AV → R (List PyData)
  | [x] => (R.ofO (rdSeq Γ x)).bind fun z => gq (z.2 || flat.flatA z.1) z.1
  | _ => .bad
inductive Tn where
  | int | bool | str | list | tuple | dict
def Tn.nm : Tn → String
  | .int => "int"
  | .bool => "bool"
  | .str => "str"
  | .list => "list"
  | .tuple => "tuple"
  | .dict => "dict"
def tyIs : PyData → Tn → Bool
  | .bool _, .int => true
  | .bool _, .bool => true
  | .int _, .int => true
  | .str _, .str => true
  | .list _, .list => true
  | .tuple _, .tuple => true
  | .dict _, .dict => true
  | _, _ => false
theorem tyIs_kit (d : PyData) (t : Tn) : kitB (pyTy d) t.nm = some (tyIs d t) := by
  cases d <;> cases t <;> simp only [pyTy, Tn.nm, tyIs] <;> decide +kernel
def noDct : PyData → Bool
  | .dict _ => false
  | _ => true
theorem dn_ty {K : PySem.W.Frag} {H : Hp} {v : V} {d : PyData} (h : Dn K (RgH H) H v d) (hn : noDct d = true) : TyX K H v (.type (pyTy d)) := by
  cases h with
  | non => exact .base .non
  | bl b => exact .base (.bl b)
  | int i => exact .base (.int i)
  | str x => exact .base (.str x)
  | lst h _ =>
    rcases h.sq with (h | ⟨o, h⟩) | ⟨o, its, n, h1, h2, _⟩
    · exact .base (.lst h)
    · exact .base (.frz h)
    · exact .kList h1 h2
  | tup h _ => exact .base (.tup h)
  | dct _ _ _ => cases hn
  | exc _ _ _ _ => cases hn
  | exc0 _ => cases hn
  | ins _ _ _ _ => cases hn
  | dcu _ _ _ => cases hn
def dIsi (ts : List Tn) (f : DF) : DF := fun Γ => (f Γ).bind fun x => match rdD x.2 x.1 with
  | some d => gq (noDct d) (.d true (.bool (ts.any fun t => tyIs d t)), x.2)
  | none => .bad
theorem ce_isi (C : Cf0 X W sc N) (t : Tn) {T : Str} {p2 : Pos} (hg : glB sc "isinstance" = true) (hm : X.mg "isinstance" = none) (hgT : glB sc T = true) (hmT : X.mg T = none) (hv : bootBuiltins T = some (.type t.nm)) (ha : CE X W e f)
    (hnT : T ≠ "__name__" := by decide +kernel) (hdT : (T == ("__debug__" : Str)) = false := by decide +kernel) (hst : starEach [e, .Name T p2] X.env = (false, eval e X.env) :: starEach [.Name T p2] X.env := by rfl) (hst2 : starEach [.Name T p2] X.env = (false, eval (.Name T p2) X.env) :: starEach [] X.env := by rfl) :
    CE X W (.Call (.Name "isinstance" p) [e, .Name T p2] [] pos) (dIsi [t] f) := fun Γ => by
  have hT : PE X (.Name T p2) (tC (.ty t.nm)) := pe_bltn (C.gl hgT) hmT hv rfl hnT hdT
  refine pe_imp (pe_callB call_isi (C.gl hg) hm PyProof.Rows.boot_isinstance (pa_cons (ha Γ) (pa_cons hT pa_nil hst2) hst) (by decide +kernel) (by decide +kernel) hst (by rw [hst2]; rfl)) fun σ H Q ⟨G, S, q⟩ => ⟨G, S, (Pst.bind q).imp fun x G1 H1 e1 p1 v S1 hv => ?_⟩
  split at p1
  · rename_i d hd
    obtain ⟨hn, p1⟩ := Pst.gq S1.w p1
    refine ⟨v, .ty t.nm, .type (pyTy d), .type t.nm, tyIs d t, rfl, .ty t.nm, dn_ty ((rdD_ok hd).ok S1 hv) hn, kit_ty (tyIs_kit d t), ?_⟩
    have := p1 (.bl (tyIs d t)) S1 (by show Dn _ _ _ _ (.bool (tyIs d t || false)); rw [Bool.or_false]; exact .bl _)
    exact this
  · exact p1.elim
end
end PD
set_option Elab.async false
set_option linter.all false
set_option maxRecDepth 100000
set_option maxHeartbeats 4000000
set_option autoImplicit false
namespace PD
open PySem L2
def R.nox {α : Type} : R α → R α
  | .exc _ => .bad
  | m => m
abbrev WF : WX := fun _ _ _ _ => False
section
variable {X : Cx} {W : WX} {sc : Scope} {N : List Str} {Γ : List Sl}
theorem Cf.blk (C : Cf X W sc N) {s : Shared} {H : Hp} {scope : Scope} {cl : List (Str × Addr)} {c : Addr} {fp : List Addr} : Cf (X.blk s H scope (compEnvC scope cl c X.env) fp) WF (relS scope sc) N := by
  refine ⟨⟨?_, C.hN, C.nd, takes0, C.hu, PassesOwn.never, C.hu2⟩, C.calm⟩
  show relabel scope X.env = relS scope sc
  rw [← C.hsc]
  rfl
theorem Clee.blk {x : Str} {dvs : List V} {sp : Sp} (h : Clee X x dvs sp) {s : Shared} {H : Hp} {scope : Scope} {ce : Env} {fp : List Addr} : Clee (X.blk s H scope ce fp) x dvs sp := h
theorem Sta.wipeS {K : PySem.W.Frag} {G : Gh} {H : Hp} {σ : St} {Γ : List Sl} (S : Sta K G H σ Γ) : ∀ vs : List Nat, Sta K G H (L2.wipe σ vs) (wipeG Γ vs)
  | [] => S
  | v :: vs => (Sta.wipeS S vs).blank v none
theorem wipeG_at {Γ : List Sl} : ∀ {vs : List Nat} {i : Nat}, i ∈ vs → i < Γ.length → (wipeG Γ vs)[i]? = some .un
  | v :: vs, i, h, hl => by
    have hlen : ∀ ws : List Nat, (wipeG Γ ws).length = Γ.length := fun ws => by
      induction ws with
      | nil => rfl
      | cons w ws ih => simp [wipeG, ih]
    by_cases q : i = v
    · subst q
      exact List.getElem?_set_self (by rw [hlen]; exact hl)
    · have h' : i ∈ vs := by
        rcases List.mem_cons.mp h with z | z
        · exact absurd z q
        · exact z
      show ((wipeG Γ vs).set v .un)[i]? = some .un
      rw [List.getElem?_set_ne (Ne.symm q)]
      exact wipeG_at h' hl
theorem wipe_eq {σ σ' : St} {vs ts : List Nat} (hl : σ'.length = σ.length) (h : ∀ j, j ∉ ts → σ'[j]? = σ[j]?) (hs : ∀ j ∈ ts, j ∈ vs) : wipe σ' vs = wipe σ vs := by
  have at_ : ∀ (ρ : St) (ws : List Nat) (j : Nat), j ∈ ws → j < ρ.length → (wipe ρ ws)[j]? = some none := fun ρ ws => by
    induction ws with
    | nil => intro j hj; cases hj
    | cons w ws ih =>
      intro j hj hl
      by_cases q : j = w
      · subst q
        exact List.getElem?_set_self (by rw [wipe_length]; exact hl)
      · show ((wipe ρ ws).set w none)[j]? = some none
        rw [List.getElem?_set_ne (Ne.symm q)]
        refine ih j ?_ hl
        rcases List.mem_cons.mp hj with z | z
        · exact absurd z q
        · exact z
  refine List.ext_getElem? fun j => ?_
  by_cases hj : j ∈ vs
  · by_cases hlt : j < σ.length
    · rw [at_ σ' vs j hj (by rw [hl]; exact hlt), at_ σ vs j hj hlt]
    · rw [List.getElem?_eq_none (by rw [wipe_length, hl]; omega), List.getElem?_eq_none (by rw [wipe_length]; omega)]
  · rw [wipe_out hj, wipe_out hj]
    exact h j fun z => hj (hs j z)
def compU (vs : List Nat) (g : DG) (fr : Bool) (t : DT) (e : DF) : List PyData → List Sl → R (List PyData × List Sl)
  | [], Γ => .val ([], Γ)
  | d :: ds, Γ => (R.ofO (g fr d Γ)).bind fun Γ1 => (t Γ1).nox.bind fun x => if x.1 then (e x.2).nox.bind fun y => (R.ofO (avD y.1)).bind fun o => (compU vs g fr t e ds (wipeG y.2 vs)).bind fun r => .val (o :: r.1, r.2) else compU vs g fr t e ds (wipeG x.2 vs)
theorem compU_cons (vs : List Nat) (g : DG) (fr : Bool) (t : DT) (e : DF) (d : PyData) (ds : List PyData) (Γ : List Sl) : compU vs g fr t e (d :: ds) Γ = (R.ofO (g fr d Γ)).bind fun Γ1 => (t Γ1).nox.bind fun x => if x.1 then (e x.2).nox.bind fun y => (R.ofO (avD y.1)).bind fun o => (compU vs g fr t e ds (wipeG y.2 vs)).bind fun r => .val (o :: r.1, r.2) else compU vs g fr t e ds (wipeG x.2 vs) := rfl
def nComp (vs : List Nat) (g : DG) (it : DI) (t : DT) (e : DF) : DN := fun Γ => (it Γ).bind fun z => (R.req (szB z.1.1)).bind fun _ => compU vs g z.1.2 t e z.1.1 (wipeG z.2 vs)
def CTs (X : Cx) (W : WX) (es : List Expr) (f : DT) : Prop := ∀ Γ, PTs X es (rdT X W Γ (f Γ) Prod.fst Prod.snd)
theorem cts_one {e : Expr} {t : DT} (h : CT X W e t) : CTs X W [e] t := fun Γ => pts_one (h Γ)
def tYes : DT := fun Γ => .val (true, Γ)
theorem cts_nil : CTs X W [] tYes := fun Γ => ⟨fun pins s' σ H Q I ⟨G, S, p⟩ => pts_nil.run pins s' σ H Q I (p G H (Ext.rf S.w) S)⟩
variable {tg iter elt : Expr} {ifs : List Expr} {scope : Scope} {own : List (Str × Nat)} {pos : Pos} {it : DI} {g : DG} {t : DT} {e : DF} {ts : List Nat}
theorem comp_rdU (hts : ∀ j ∈ ts, j ∈ own.map (·.2)) {σ : St} {H : Hp} {Q : VK} (h : rdF X W Γ (nComp (own.map (·.2)) g it t e Γ) Prod.fst Prod.snd σ H Q) :
    tLc (rdIU X W Γ (it Γ)) (fun v σ H Q => ∃ G Γ fr d Γ', Sta X.K G H σ Γ ∧ Dn X.K (rg G fr) H v d ∧ g fr d Γ = some Γ' ∧ ∀ σ', σ'.length = σ.length → (∀ j, j ∉ ts → σ'[j]? = σ[j]?) → Sta X.K G H σ' Γ' → Q σ' H)
      (fun σ H Q => ∃ Γ1, rdT X WF Γ1 (t Γ1) Prod.fst Prod.snd σ H Q) (fun σ H Q => ∃ Γ1, rdE X WF Γ1 (e Γ1) Prod.fst Prod.snd σ H Q) (own.map (·.2)) σ H Q := by
  obtain ⟨G, S0, p⟩ := h
  refine ⟨G, S0, (Pst.bind p).imp fun r G1 H1 e1 p1 J S1 I D hD => ?_⟩
  generalize hvs : own.map (·.2) = vs at *
  obtain ⟨⟨items, fr⟩, Γ1⟩ := r
  obtain ⟨hsz, p1⟩ := Pst.req p1
  simp only at hsz p1 I S1
  have hsz : items.length ≤ sizeLine := of_decide_eq_true hsz
  have hE0 : G1.E D = none := by
    cases q : G1.E D with
    | none => rfl
    | some u => rw [(S1.w.ex D u q).1] at hD; cases hD
  have hID : ∀ j, G1.I j ≠ some (.ref D) := fun j h => by
    rcases S1.w.iv j D h with z | z | ⟨xs, z⟩
    · exact S1.w.pal D z hD
    · exact z hE0
    · rw [hD] at z; cases z
  have hww : L2.wipe (L2.wipe σ vs) vs = L2.wipe σ vs := wipe_eq (ts := vs) (wipe_length ..) (fun j hj => wipe_out hj) (fun j hj => hj)
  have nol : ∀ vs' : List V, (∀ xs, HO.lst vs' ≠ .tup xs) ∧ ∀ x y, HO.lst vs' ≠ .frz x y := fun vs' => ⟨fun _ z => (by cases z), fun _ _ z => (by cases z)⟩
  let cu : List PyData → List Sl → R (List PyData × List Sl) := compU vs g fr t e
  let body : Nat → Hp → Prop := fun i H2 => i ≤ items.length ∧ ∃ G2 s0 vacc bs, Sta X.K G2 H2 (L2.wipe σ vs) (wipeG s0 vs) ∧ Le G1 H1 G2 H2 ∧ G2.E = upd G1.E D (.lst vacc) ∧ G2.I = G1.I ∧ DnA X.K (rg G2 true) H2 vacc bs ∧ bs.length ≤ i ∧
    compU vs g fr t e items (wipeG Γ1 vs) = (compU vs g fr t e (items.drop i) (wipeG s0 vs)).bind fun z => .val (bs ++ z.1, z.2)
  refine ⟨fun i m H2 => m = items.length - i ∧ body i H2, ⟨_, rfl, Nat.zero_le _, ?_⟩, ?_⟩
  · have Sw : Sta X.K G1 H1 (L2.wipe σ vs) (wipeG Γ1 vs) := S1.wipeS vs
    obtain ⟨S2, t2⟩ := Sw.pin (o := .lst []) hD
    refine ⟨_, Γ1, [], [], S2, ⟨rfl, rfl, fun _ _ h => h, fun _ _ h => .inl h, t2, S2.w, fun a o h => by show upd G1.E D _ a = _; rw [upd_ne (fun z => by rw [z, hE0] at h; cases h)]; exact h⟩, rfl, rfl, .nil, Nat.le_refl _, ?_⟩
    rw [List.drop_zero]
    have : (fun z : List PyData × List Sl => R.val ([] ++ z.1, z.2)) = fun z => R.val z := rfl
    rw [this, R.bind_val]
  · rintro i m H2 ⟨rfl, hile, G2, s0, vacc, bs, S2, l2, hE2, hI2, d2, hbs, eq⟩
    by_cases hlt : i < items.length
    · rw [List.drop_eq_getElem_cons hlt, compU_cons, R.bind_assoc] at eq
      cases hg : g fr items[i] (wipeG s0 vs) with
      | none => rw [hg] at eq; rw [eq] at p1; exact p1.elim
      | some Γ3 =>
      rw [hg] at eq
      have eq : compU vs g fr t e items (wipeG Γ1 vs) = ((t Γ3).nox.bind fun x => if x.1 then (e x.2).nox.bind fun y => (R.ofO (avD y.1)).bind fun o => (compU vs g fr t e (items.drop (i + 1)) (wipeG y.2 vs)).bind fun r => .val (o :: r.1, r.2) else compU vs g fr t e (items.drop (i + 1)) (wipeG x.2 vs)).bind fun z => .val (bs ++ z.1, z.2) := eq
      rw [R.bind_assoc] at eq
      refine .inr ⟨I.go i G2 H2 hlt l2, body (i + 1), fun H' hb => ⟨_, (by omega), rfl, hb⟩, fun v H3 y => ?_⟩
      obtain ⟨G3, d, hd, e3, S3, dn⟩ := I.yl i G2 H2 _ _ v H3 hlt l2 S2 y
      have hx : d = items[i] := by
        rw [List.getElem?_eq_getElem hlt] at hd
        exact (Option.some.inj hd).symm
      subst hx
      refine ⟨G3, wipeG s0 vs, fr, items[i], Γ3, S3, dn, hg, fun σ2 l3 k3 S4 => ⟨(wipe_eq l3 k3 hts).trans hww, Γ3, G3, S4, ?_⟩⟩
      have hw2 : L2.wipe σ2 vs = L2.wipe σ vs := (wipe_eq l3 k3 hts).trans hww
      cases htt : t Γ3 with
      | bad => rw [htt] at eq; rw [eq] at p1; exact p1.elim
      | exc z => rw [htt] at eq; rw [eq] at p1; exact p1.elim
      | val x =>
        rw [htt] at eq
        intro G4 H4 e4 S5
        obtain ⟨b, Γ4⟩ := x
        have eq : compU vs g fr t e items (wipeG Γ1 vs) = (if b = true then (e Γ4).nox.bind fun y => (R.ofO (avD y.1)).bind fun o => (compU vs g fr t e (items.drop (i + 1)) (wipeG y.2 vs)).bind fun r => .val (o :: r.1, r.2) else compU vs g fr t e (items.drop (i + 1)) (wipeG Γ4 vs)).bind fun z => .val (bs ++ z.1, z.2) := eq
        have l4 : Le G1 H1 G4 H4 := (l2.tr e3.le).tr e4.le
        have hE4 : G4.E = upd G1.E D (.lst vacc) := e4.e.trans (e3.e.trans hE2)
        have hI4 : G4.I = G1.I := e4.i.trans (e3.i.trans hI2)
        have d4 : DnA X.K (rg G4 true) H4 vacc bs := e4.dna (e3.dna d2)
        cases b with
        | false =>
          refine itF ⟨hlt, G4, Γ4, vacc, bs, ?_, l4, hE4, hI4, d4, Nat.le_succ_of_le hbs, ?_⟩
          · rw [← hw2]
            exact S5.wipeS vs
          · rw [eq, if_neg (by simp)]
        | true =>
          rw [if_pos rfl, R.bind_assoc] at eq
          refine itT ⟨Γ4, G4, S5, ?_⟩
          cases hte : e Γ4 with
          | bad => rw [hte] at eq; rw [eq] at p1; exact p1.elim
          | exc z => rw [hte] at eq; rw [eq] at p1; exact p1.elim
          | val z =>
            rw [hte] at eq
            obtain ⟨av, Γ5⟩ := z
            have eq : compU vs g fr t e items (wipeG Γ1 vs) = ((R.ofO (avD av)).bind fun o => (compU vs g fr t e (items.drop (i + 1)) (wipeG Γ5 vs)).bind fun r => .val (o :: r.1, r.2)).bind fun z => .val (bs ++ z.1, z.2) := eq
            cases hav : avD av with
            | none => rw [hav] at eq; rw [eq] at p1; exact p1.elim
            | some o =>
            rw [hav] at eq
            have eq : compU vs g fr t e items (wipeG Γ1 vs) = ((compU vs g fr t e (items.drop (i + 1)) (wipeG Γ5 vs)).bind fun r => .val (o :: r.1, r.2)).bind fun z => .val (bs ++ z.1, z.2) := eq
            intro G5 H5 e5 yv S6 dy
            have dy : Dn X.K (rg G5 true) H5 yv o := by
              unfold avD at hav
              split at hav
              · cases hav; exact dy
              · cases hav
            have hE5 : G5.E = upd G1.E D (.lst vacc) := e5.e.trans hE4
            obtain ⟨S7, hHD, t7⟩ := (S6.wipeS vs).unpin hE5 hE0 (nol vacc).1 (nol vacc).2 (fun j => by rw [e5.i, hI4]; exact hID j)
            have hal : vacc.length = bs.length := d4.length
            refine ⟨vacc, hHD, by omega, ?_⟩
            obtain ⟨S8, t8⟩ := S7.pin (o := .lst (vacc ++ [yv])) del_same
            have hH : upd (PD.del H5 D) D (.lst (vacc ++ [yv])) = upd H5 D (.lst (vacc ++ [yv])) := by
              funext b
              by_cases q : b = D
              · subst q; rw [upd_same, upd_same]
              · rw [upd_ne q, upd_ne q, del_ne q]
            rw [hH] at S8 t8
            have t9 : TupLe H5 (upd H5 D (.lst (vacc ++ [yv]))) := t7.tr t8
            refine ⟨hlt, ⟨G5.H0, G5.P, G5.I, G5.N, upd G1.E D (.lst (vacc ++ [yv]))⟩, Γ5, vacc ++ [yv], bs ++ [o], ?_, ⟨(l4.tr e5.le).h0, (l4.tr e5.le).p, (l4.tr e5.le).n, (l4.tr e5.le).nn, (l4.tr e5.le).t.tr t9, S8.w, fun a o h => by show upd G1.E D _ a = _; rw [upd_ne (fun z => by rw [z, hE0] at h; cases h)]; exact h⟩, rfl, e5.i.trans hI4, ?_, ?_, ?_⟩
            · rw [← hw2]
              exact S8
            · exact ((e5.dna d4).append (.cons dy .nil)).mono (fun _ _ h => h) t9
            · rw [List.length_append]
              show bs.length + 1 ≤ i + 1
              omega
            · rw [eq, R.bind_assoc]
              congr 1
              funext q
              show R.val (bs ++ o :: q.1, q.2) = R.val (bs ++ [o] ++ q.1, q.2)
              rw [List.append_assoc]
              rfl
    · have ei : i = items.length := by omega
      subst ei
      refine .inl ⟨I.st G2 H2 l2, ?_⟩
      rw [List.drop_length] at eq
      have eq : compU vs g fr t e items (wipeG Γ1 vs) = .val (bs ++ [], wipeG s0 vs) := eq
      rw [List.append_nil] at eq
      rw [eq] at p1
      obtain ⟨S7, hHD, t7⟩ := S2.unpin hE2 hE0 (nol vacc).1 (nol vacc).2 (fun j => by rw [hI2]; exact hID j)
      have P := p1 ⟨G2.H0, G2.P, G2.I, G2.N, G1.E⟩ (PD.del H2 D) ⟨l2.h0, l2.p, hI2, rfl, l2.n, l2.nn, l2.t.tr t7, S7.w⟩ D vacc (S7.swap (wipe_length ..).symm fun j => ?_) del_same (d2.mono (fun _ _ h => h) t7)
      · rw [del_upd hHD] at P
        exact P
      · have hlen : ∀ ws : List Nat, (wipeG s0 ws).length = s0.length := fun ws => by
          induction ws with
          | nil => rfl
          | cons w ws ih => simp [wipeG, ih]
        by_cases hj : j ∈ vs
        · by_cases hjl : j < s0.length
          · exact .inr (wipeG_at hj hjl)
          · left
            obtain ⟨A7, Z7⟩ := S7
            have : s0.length = σ.length := by rw [← hlen vs, Z7.len, wipe_length]
            rw [List.getElem?_eq_none (by omega), List.getElem?_eq_none (by rw [wipe_length]; omega)]
        · exact .inl (wipe_out hj).symm
structure CompU (X : Cx) (W : WX) (sc : Scope) (N : List Str) (tg iter elt : Expr) (ifs : List Expr) (scope : Scope) (own : List (Str × Nat)) (ts : List Nat) (g : DG) (it : DI) (t : DT) (e : DF) : Prop where
  hin : CI X W tg iter it
  ok : blkC N sc scope own = true
  hg : ∀ (s : Shared) (H : Hp) (c : Addr) (cl : List (Str × Addr)) (fp : List Addr), CG (X.blk s H scope (compEnvC scope cl c X.env) fp) tg ts g
  ht : ∀ (s : Shared) (H : Hp) (c : Addr) (cl : List (Str × Addr)) (fp : List Addr), CTs (X.blk s H scope (compEnvC scope cl c X.env) fp) WF ifs t
  he : ∀ (s : Shared) (H : Hp) (c : Addr) (cl : List (Str × Addr)) (fp : List Addr), CE (X.blk s H scope (compEnvC scope cl c X.env) fp) WF elt e
  hts : ∀ j ∈ ts, j ∈ own.map (·.2)
  hs : ∀ x, foldedSetIterable iter X.env x = pure x
theorem cn_comp (C : Cf X W sc N) (h : CompU X W sc N tg iter elt ifs scope own ts g it t e) : CN X W (.ListComp elt [⟨tg, iter, ifs, 0⟩] scope pos) (nComp (own.map (·.2)) g it t e) := fun Γ => by
  have hB : BlkOk X.N X.env.scope scope own := by rw [C.hN, C.hsc]; exact blkOk_by h.ok
  refine pe_imp (pe_lc (g := fun v σ H Q => ∃ G Γ fr d Γ', Sta X.K G H σ Γ ∧ Dn X.K (rg G fr) H v d ∧ g fr d Γ = some Γ' ∧ ∀ σ' : St, List.length σ' = List.length σ → (∀ j, j ∉ ts → σ'[j]? = σ[j]?) → Sta X.K G H σ' Γ' → Q σ' H)
    (tt := fun σ H Q => ∃ Γ1, rdT X WF Γ1 (t Γ1) Prod.fst Prod.snd σ H Q) (te := fun σ H Q => ∃ Γ1, rdE X WF Γ1 (e Γ1) Prod.fst Prod.snd σ H Q)
    C.calm (by rw [C.hN]; exact C.nd) (h.hin Γ) hB (fun s H c cl fp => h.hg s H c cl fp) (fun s H c cl fp => ?_) (fun s H c cl fp => ?_) h.hs) fun σ H Q q => comp_rdU h.hts q
  · exact ⟨fun pins s' σ H' Q I ⟨z, q⟩ => (h.ht s H c cl fp z).run pins s' σ H' Q I q⟩
  · exact ⟨fun pins s' σ H' Q I ⟨z, q⟩ => (h.he s H c cl fp z).run pins s' σ H' Q I q⟩
end
end PD
set_option Elab.async false
set_option linter.all false
set_option maxRecDepth 100000
set_option maxHeartbeats 4000000
set_option autoImplicit false
namespace PD
open PySem L2
def cellL (Γ : List Sl) (i : Nat) : Option (Bool × List PyData) := match Γ[i]? with
  | some (.own (.lst ds)) => some (false, ds)
  | some (.io (.lst ds)) => some (true, ds)
  | _ => none
theorem cellL_ok {Γ : List Sl} {i : Nat} {z : Bool × List PyData} (h : cellL Γ i = some z) : Γ[i]? = some (mkS z.1 (.lst z.2)) := by
  unfold cellL at h
  split at h
  · cases h; exact ‹_›
  · cases h; exact ‹_›
  · cases h
section
variable {X : Cx} {W : WX} {sc : Scope} {N : List Str} {o e e2 : Expr} {es : List Expr} {apos cpos pos p : Pos} {k : DA} {f g : DF}
def dLm (i : Nat) (q : List PyData → List AV → R (PyData × List PyData)) (k : DA) : DF := fun Γ => (R.ofO (cellL Γ i)).bind fun _ => (k Γ).bind fun z => (R.ofO (cellL z.2 i)).bind fun c => (q c.2 z.1).bind fun y => .val (.d true y.1, z.2.set i (mkS c.1 (.lst y.2)))
theorem evp_cell (C : Cf0 X W sc N) {Γ : List Sl} {i : Nat} {x : Str} {io : Bool} {c : Cl} (h : Γ[i]? = some (mkS io c)) (hN : N[i]? = some x) (hv : visB sc x = true) (hd : (x == ("__debug__" : Str)) = false := by decide +kernel) (hcd : (x == ("__classdict__" : Str)) = false := by decide +kernel) : EvP X W Γ (.Name x p) (.s i) := by
  cases io with
  | true => exact evp_slot C (.inr (.inl h)) hN hv hd hcd
  | false => exact evp_slot C (.inl h) hN hv hd hcd
theorem ce_lm (C : Cf0 X W sc N) {name : Str} {id : String} {r : V → List V → Hp → VK → Prop} (q : List PyData → List AV → R (PyData × List PyData)) (slot : Slot "list" name id) (hty : typeOf (.builtin id) = pure (.type "method_descriptor")) (hm : MtR X id r)
    (hk : ∀ as ds G H σ p ws Q, H p = some (.lst ws) → DnA X.K (rg G true) H ws ds → (∀ vs, AVs X.K G H σ vs as → (∀ y, q ds as = .val y → ∃ ws' v, DnA X.K (rg G true) H ws' y.2 ∧ Dn X.K (rg G true) H v y.1 ∧ (Q v (upd H p (.lst ws')) → r (.ref p) vs H Q))))
    (i : Nat) {x : Str} (hN : N[i]? = some x) (hv : visB sc x = true) (ha : CA X W (e :: es) k) (hq : ∀ ds as z, q ds as ≠ .exc z)
    (hd : (x == ("__debug__" : Str)) = false := by decide +kernel) (hcd : (x == ("__classdict__" : Str)) = false := by decide +kernel)
    (hfew : ((backTo cpos (starEach (e :: es) X.env)).all (fun x => !x.1) && (backToKw cpos (keywordEach [] X.env)).all (fun x => x.1.isSome) && decide ((e :: es).length + ([] : List Keyword).length + (if ([] : List Keyword).isEmpty then 0 else 1) < 30)) = true := by rfl)
    (hline : (apos.endLine == cpos.line) = true := by rfl) (hs : starEach (e :: es) X.env = (false, eval e X.env) :: starEach es X.env := by rfl) (hplain : (backTo cpos (starEach es X.env)).any (·.1) = false := by rfl)
    (hbase : attributeBase (.Name x p) name X.env (eval (.Name x p) X.env) = eval (.Name x p) X.env := by rfl) :
    CE X W (.Call (.Attribute (.Name x p) name apos) (e :: es) [] cpos) (dLm i q k) := fun Γ => by
  unfold dLm
  cases h0 : cellL Γ i with
  | none => exact ev_bad
  | some c0 =>
    have ho := evp_cell (W := W) (p := p) C (cellL_ok h0) hN hv hd hcd
    refine pe_imp (pe_bm PySem.F.plainAttrs_list slot hty hm ho (ha Γ) hbase hfew hline hs hplain) fun σ H Q ⟨G, S, pp⟩ => ⟨G, S, fun G1 H1 e1 v S1 hx => ?_⟩
    obtain ⟨l, vs, g1, g2, g3, _⟩ := S1.chg i c0.1 (cellL_ok h0)
    have hx : σ[i]? = some (some v) := hx
    rw [g1] at hx
    cases hx
    have pp : Pst X W G H σ ((k Γ).bind fun z => (R.ofO (cellL z.2 i)).bind fun c => (q c.2 z.1).bind fun y => .val (AV.d true y.1, z.2.set i (mkS c.1 (.lst y.2)))) _ := pp
    refine ⟨.inl ⟨rfl, vs, SqL.of g2⟩, G1, S1, (Pst.bind (Pst.ext pp e1)).imp fun z G2 H2 e2 p2 ws S2 hw => ?_⟩
    obtain ⟨c, hc, p2⟩ := Pst.ofO p2
    obtain ⟨l', vs', k1, k2, k3, k4⟩ := S2.chg i c.1 (cellL_ok hc)
    rw [g1] at k1
    cases k1
    cases hy : q c.2 z.1 with
    | bad => rw [hy] at p2; exact p2.elim
    | exc z => exact absurd hy (hq _ _ _)
    | val y =>
      rw [hy] at p2
      obtain ⟨ws', v, m1, m2, m3⟩ := hk z.1 c.2 G2 H2 σ l vs' Q k2 k3 ws hw y hy
      obtain ⟨S3, e3⟩ := k4 ws' y.2 m1
      exact m3 (p2 G2 _ e3 v S3 (e3.dn m2))
theorem ce_lm0 (C : Cf0 X W sc N) {name : Str} {id : String} {r : V → List V → Hp → VK → Prop} (q : List PyData → List AV → R (PyData × List PyData)) (slot : Slot "list" name id) (hty : typeOf (.builtin id) = pure (.type "method_descriptor")) (hm : MtR X id r)
    (hk : ∀ ds G H p ws Q, H p = some (.lst ws) → DnA X.K (rg G true) H ws ds → (∀ y, q ds [] = .val y → ∃ ws' v, DnA X.K (rg G true) H ws' y.2 ∧ Dn X.K (rg G true) H v y.1 ∧ (Q v (upd H p (.lst ws')) → r (.ref p) [] H Q)))
    (i : Nat) {x : Str} (hN : N[i]? = some x) (hv : visB sc x = true) (hq : ∀ ds as z, q ds as ≠ .exc z)
    (hd : (x == ("__debug__" : Str)) = false := by decide +kernel) (hcd : (x == ("__classdict__" : Str)) = false := by decide +kernel)
    (hline : (apos.endLine == cpos.line) = true := by rfl) (hbase : attributeBase (.Name x p) name X.env (eval (.Name x p) X.env) = eval (.Name x p) X.env := by rfl) :
    CE X W (.Call (.Attribute (.Name x p) name apos) [] [] cpos) (dLm i q dA0) := fun Γ => by
  unfold dLm
  cases h0 : cellL Γ i with
  | none => exact ev_bad
  | some c0 =>
    have ho := evp_cell (W := W) (p := p) C (cellL_ok h0) hN hv hd hcd
    refine pe_imp (pe_bm0 PySem.F.plainAttrs_list slot hty hm ho hbase hline) fun σ H Q ⟨G, S, pp⟩ => ⟨G, S, fun G1 H1 e1 v S1 hx => ?_⟩
    obtain ⟨l, vs, g1, g2, g3, k4⟩ := S1.chg i c0.1 (cellL_ok h0)
    have hx : σ[i]? = some (some v) := hx
    rw [g1] at hx
    cases hx
    refine ⟨.inl ⟨rfl, vs, SqL.of g2⟩, ?_⟩
    have pp : Pst X W G H σ ((R.ofO (cellL Γ i)).bind fun c => (q c.2 []).bind fun y => .val (AV.d true y.1, Γ.set i (mkS c.1 (.lst y.2)))) _ := pp
    obtain ⟨c, hc, p2⟩ := Pst.ofO (Pst.ext pp e1)
    rw [h0] at hc
    cases hc
    cases hy : q c0.2 [] with
    | bad => rw [hy] at p2; exact p2.elim
    | exc z => exact absurd hy (hq _ _ _)
    | val y =>
      rw [hy] at p2
      obtain ⟨ws', v, m1, m2, m3⟩ := hk c0.2 G1 H1 l vs Q g2 g3 y hy
      obtain ⟨S3, e3⟩ := k4 ws' y.2 m1
      exact m3 (p2 G1 _ e3 v S3 (e3.dn m2))
def qAppend (ds : List PyData) : List AV → R (PyData × List PyData)
  | [.d true y] => gq (ltS ds) (.none, ds ++ [y])
  | _ => .bad
theorem gq_val {α : Type} {c : Bool} {a b : α} (h : gq c a = .val b) : c = true ∧ b = a := by
  cases c with
  | false => cases h
  | true => cases h; exact ⟨rfl, rfl⟩
theorem gq_nox {α : Type} {c : Bool} {a : α} {z : Exn} : gq c a ≠ .exc z := by cases c <;> intro h <;> cases h
theorem ce_append (C : Cf0 X W sc N) (i : Nat) {x : Str} (hN : N[i]? = some x) (hv : visB sc x = true) (ha : CE X W e f) (hs : starEach [e] X.env = (false, eval e X.env) :: starEach [] X.env := by rfl) (hd : (x == ("__debug__" : Str)) = false := by decide +kernel) (hcd : (x == ("__classdict__" : Str)) = false := by decide +kernel) (hline : (apos.endLine == cpos.line) = true := by rfl)
    (hbase : attributeBase (.Name x p) "append" X.env (eval (.Name x p) X.env) = eval (.Name x p) X.env := by rfl) : CE X W (.Call (.Attribute (.Name x p) "append" apos) [e] [] cpos) (dLm i qAppend (dAc (dFrz f) dA0)) := by
  refine ce_lm C qAppend PySem.F.slot_list_append PySem.F.type_list_append mt_append (fun as ds G H σ p ws Q hp hd vs av y hy => ?_) i hN hv (ca_cons (ce_frz ha) ca_nil hs) (fun ds as z h => ?_) hd hcd (by rw [hs]; rfl) hline hs rfl hbase
  · unfold qAppend at hy
    split at hy
    · rename_i z
      obtain ⟨hc, rfl⟩ := gq_val hy
      obtain ⟨v, rfl, hv⟩ := avs_one av
      have hv : Dn X.K (rg G true) H v z := hv
      exact ⟨ws ++ [v], .non, hd.append (.cons hv .nil), .non, fun q => ⟨p, ws, v, rfl, rfl, hp, by rw [hd.length]; exact of_decide_eq_true hc, q⟩⟩
    · cases hy
  · unfold qAppend at h
    split at h
    · exact gq_nox h
    · cases h
def qPop (ds : List PyData) (_ : List AV) : R (PyData × List PyData) := (R.ofO ds.getLast?).bind fun y => .val (y, ds.dropLast)
theorem ce_pop (C : Cf0 X W sc N) (i : Nat) {x : Str} (hN : N[i]? = some x) (hv : visB sc x = true) (hd : (x == ("__debug__" : Str)) = false := by decide +kernel) (hcd : (x == ("__classdict__" : Str)) = false := by decide +kernel) (hline : (apos.endLine == cpos.line) = true := by rfl)
    (hbase : attributeBase (.Name x p) "pop" X.env (eval (.Name x p) X.env) = eval (.Name x p) X.env := by rfl) : CE X W (.Call (.Attribute (.Name x p) "pop" apos) [] [] cpos) (dLm i qPop dA0) := by
  refine ce_lm0 C qPop PySem.F.slot_list_pop PySem.F.type_list_pop mt_pop (fun ds G H p ws Q hp hd y hy => ?_) i hN hv (fun ds as z h => ?_) hd hcd hline hbase
  · unfold qPop at hy
    cases hl : ds.getLast? with
    | none => rw [hl] at hy; cases hy
    | some d =>
      rw [hl] at hy
      cases hy
      have hl2 : ds[ds.length - 1]? = some d := by rw [← List.getLast?_eq_getElem?]; exact hl
      obtain ⟨v, h1, h2⟩ := hd.get' hl2
      refine ⟨ws.dropLast, v, ?_, h2, fun q => ⟨p, ws, v, rfl, rfl, hp, by rw [hd.length]; exact h1, q⟩⟩
      rw [List.dropLast_eq_take, List.dropLast_eq_take, hd.length]
      exact hd.take _
  · unfold qPop at h
    cases hl : ds.getLast? <;> rw [hl] at h <;> cases h
end
end PD
set_option Elab.async false
set_option linter.all false
set_option maxRecDepth 100000
set_option maxHeartbeats 4000000
set_option autoImplicit false
namespace PD
open PySem L2
theorem Sta.chg1 {K : PySem.W.Frag} {G : Gh} {H : Hp} {σ : St} {Γ : List Sl} {c : Cl} (s : Sta K G H σ Γ) (i : Nat) (io : Bool) (hi : Γ[i]? = some (mkS io c)) :
    ∃ v fp, σ[i]? = some (some v) ∧ c.ok K (rg G true) H v fp ∧ ∀ p o o' c', fp = [p] → H p = some o → (∀ xs, o ≠ .tup xs) → (∀ x y, o ≠ .frz x y) → c'.ok K (rg G true) (upd H p o') v [p] → Sta K G (upd H p o') σ (Γ.set i (mkS io c')) ∧ Ext G H G (upd H p o') := by
  obtain ⟨A, S⟩ := s
  have key : ∃ v, σ[i]? = some (some v) ∧ c.ok K (RgN G) H v (A i) ∧ ∀ (H' : Hp) (c' : Cl) (fp' : List Addr), c'.ok K (RgN G) H' v fp' → (∀ p ∈ fp', p ∈ A i) → SlOk K G H' i σ[i]? fp' (mkS io c') := by
    cases io with
    | true =>
      obtain ⟨v, h1, h2, h3⟩ := S.sl i _ hi
      exact ⟨v, h1, h3, fun H' c' fp' k _ => ⟨v, h1, h2, k⟩⟩
    | false =>
      obtain ⟨v, h1, h2, h3⟩ := S.sl i _ hi
      exact ⟨v, h1, h3, fun H' c' fp' k q => ⟨v, h1, fun p hp => h2 p (q p hp), k⟩⟩
  obtain ⟨v, h1, hc, mk⟩ := key
  refine ⟨v, A i, h1, hc, fun p o o' c' hfp hp ht hz hc' => ?_⟩
  have hpA : p ∈ A i := by rw [hfp]; simp
  have hN : G.N p = none := (S.al i p hpA).2.1
  have g : Grow G H G.N (upd H p o') [p] := grow_mut S.w hp hN ht hz
  refine S.step (i := i) (fp' := [p]) (s' := mkS io c') (σ' := σ) g (fun q hq => ?_) (fun j hj => rfl) rfl (fun hlt => mk _ c' [p] hc' fun q hq => ?_) (fun q hq => ?_)
  · have : q = p := by simpa using hq
    rw [this]; exact hpA
  · have : q = p := by simpa using hq
    rw [this]; exact hpA
  · have : q = p := by simpa using hq
    rw [this]
    exact ⟨by rw [upd_same]; simp, hN, .inl hpA⟩
section
variable {X : Cx} {W : WX} {sc : Scope} {N : List Str} {a b e e2 o : Expr} {es : List Expr} {apos cpos pos p : Pos} {k : DA} {f g : DF} {s : Stmt}
theorem u1 (C : Cf0 X W sc N) : X.A.units + 1 < cLine := by have := C.hu2; omega
def bBad : DS := fun _ => .bad
def dExt (i : Nat) (n : DN) : DF := fun Γ => (R.ofO (cellL Γ i)).bind fun _ => (n Γ).bind fun z => (R.ofO (cellL z.2 i)).bind fun c => (R.req (szB (c.2 ++ z.1))).bind fun _ => .val (.d true .none, z.2.set i (mkS c.1 (.lst (c.2 ++ z.1))))
theorem ce_extend (C : Cf0 X W sc N) (i : Nat) {x : Str} {n : DN} (hN : N[i]? = some x) (hv : visB sc x = true) (ha : CN X W e n) (hs : starEach [e] X.env = (false, eval e X.env) :: starEach [] X.env := by rfl) (hd : (x == ("__debug__" : Str)) = false := by decide +kernel) (hcd : (x == ("__classdict__" : Str)) = false := by decide +kernel) (hline : (apos.endLine == cpos.line) = true := by rfl)
    (hbase : attributeBase (.Name x p) "extend" X.env (eval (.Name x p) X.env) = eval (.Name x p) X.env := by rfl) : CE X W (.Call (.Attribute (.Name x p) "extend" apos) [e] [] cpos) (dExt i n) := fun Γ => by
  unfold dExt
  cases h0 : cellL Γ i with
  | none => exact ev_bad
  | some c0 =>
    have ho := evp_cell (W := W) (p := p) C (cellL_ok h0) hN hv hd hcd
    refine pe_imp (pe_bm PySem.F.plainAttrs_list PySem.F.slot_list_extend PySem.F.type_list_extend mt_extend ho (pa_cons (ha Γ) pa_nil hs) hbase (by rw [hs]; rfl) hline hs rfl) fun σ H Q ⟨G, S, pp⟩ => ⟨G, S, fun G1 H1 e1 v S1 hx => ?_⟩
    obtain ⟨l, vs, g1, g2, g3, _⟩ := S1.chg i c0.1 (cellL_ok h0)
    have hx : σ[i]? = some (some v) := hx
    rw [g1] at hx
    cases hx
    have pp : Pst X W G H σ ((n Γ).bind fun z => (R.ofO (cellL z.2 i)).bind fun c => (R.req (szB (c.2 ++ z.1))).bind fun _ => .val (AV.d true .none, z.2.set i (mkS c.1 (.lst (c.2 ++ z.1))))) _ := pp
    refine ⟨.inl ⟨rfl, vs, SqL.of g2⟩, G1, S1, (Pst.bind (Pst.ext pp e1)).imp fun z G2 H2 e2 p2 q ws S2 hq hw => ?_⟩
    obtain ⟨c, hc, p2⟩ := Pst.ofO p2
    obtain ⟨hsz, p2⟩ := Pst.req p2
    obtain ⟨S3, e3⟩ := S2.grow (grow_own (o := .lst ws) S2.w hq)
    obtain ⟨l', vs', k1, k2, k3, k4⟩ := S3.chg i c.1 (cellL_ok hc)
    rw [g1] at k1
    cases k1
    obtain ⟨S4, e4⟩ := k4 (vs' ++ ws) (c.2 ++ z.1) (k3.append (e3.dna hw))
    refine ⟨l, q, vs', ws, rfl, rfl, k2, upd_same, ?_, p2 _ _ (e3.tr e4) .non S4 .non⟩
    have := of_decide_eq_true hsz
    rw [k3.length, hw.length]
    simpa using this
def rSetD : V → V → V → Hp → (Hp → Prop) → Prop := fun o i v H Q => ∃ a H', o = .ref a ∧ DPut H a i v H' ∧ Q H'
theorem set_dict (hu : X.A.units + 1 < cLine) : PSet X rSetD := by
  intro pins s σ H o i v ov iv u Q I ro ri rv h
  obtain ⟨a, H', rfl, g, q⟩ := h
  cases ro
  exact d_setItem hu I g ri rv fun s' I' => ⟨H', I', q⟩
theorem set_or {t1 t2 : V → V → V → Hp → (Hp → Prop) → Prop} (h1 : PSet X t1) (h2 : PSet X t2) : PSet X (fun o i v H Q => t1 o i v H Q ∨ t2 o i v H Q) := fun pins s σ H o i v ov iv u Q I ro ri rv h => h.elim (h1 pins s σ H o i v ov iv u Q I ro ri rv) (h2 pins s σ H o i v ov iv u Q I ro ri rv)
def dKey : PyData → Option Key
  | .int i => some (.inl i)
  | .str x => some (.inr x)
  | _ => none
def dKeys : List PyData → Option (List Key)
  | [] => some []
  | d :: ds => (dKey d).bind fun k => (dKeys ds).map (k :: ·)
theorem dKey_eq {d : PyData} {k : Key} (h : dKey d = some k) : d = keyD k := by
  cases d <;> simp only [dKey] at h <;> cases h <;> rfl
theorem dKey_ok {K : PySem.W.Frag} {G : Rg} {H : Hp} {v : V} {d : PyData} {k : Key} (h : dKey d = some k) (hv : Dn K G H v d) : v = kV k := by
  cases d <;> simp only [dKey] at h <;> cases h
  · exact dn_int hv
  · exact dn_str hv
theorem dKeys_ok {K : PySem.W.Frag} {G : Rg} {H : Hp} : ∀ {ds : List PyData} {ks : List Key} {vs : List V}, dKeys ds = some ks → DnA K G H vs ds → vs = ks.map kV
  | [], _, _, h, .nil => by cases h; rfl
  | d :: ds, ks, _, h, .cons q r => by
    unfold dKeys at h
    cases e : dKey d with
    | none => rw [e] at h; cases h
    | some k =>
      rw [e] at h
      have h : (dKeys ds).map (k :: ·) = some ks := h
      cases e2 : dKeys ds with
      | none => rw [e2] at h; cases h
      | some js =>
        rw [e2] at h
        cases h
        rw [dKey_ok e q, dKeys_ok e2 r]
        rfl
theorem dKeys_eq : ∀ {ds : List PyData} {ks : List Key}, dKeys ds = some ks → ds = ks.map keyD
  | [], _, h => by cases h; rfl
  | d :: ds, ks, h => by
    unfold dKeys at h
    cases e : dKey d with
    | none => rw [e] at h; cases h
    | some k =>
      rw [e] at h
      have h : (dKeys ds).map (k :: ·) = some ks := h
      cases e2 : dKeys ds with
      | none => rw [e2] at h; cases h
      | some js => rw [e2] at h; cases h; rw [dKey_eq e, dKeys_eq e2]; rfl
end
end PD
set_option Elab.async false
set_option linter.all false
set_option maxRecDepth 100000
set_option maxHeartbeats 4000000
set_option autoImplicit false
namespace PD
open PySem L2
theorem DnA.fresh {K : PySem.W.Frag} {G : Gh} {H : Hp} {fr : Bool} {vs : List V} {ds : List PyData} (h : DnA K (rg G fr) H vs ds) (hf : (fr || flat.flatA ds) = true) : DnA K (rg G true) H vs ds := by
  cases fr with
  | true => exact h
  | false => exact h.free (by simpa using hf)
section
variable {X : Cx} {W : WX} {sc : Scope} {N : List Str} {a b c e e2 o : Expr} {es : List Expr} {apos cpos pos p p2 : Pos} {k : DA} {f g : DF} {s : Stmt}
def lsA (Γ : List Sl) : AV → Option (List PyData)
  | .d fr (.list ds) => if fr || flat.flatA ds then some ds else none
  | .s j => match rdD Γ (.s j) with
    | some (.list ds) => some ds
    | _ => none
  | _ => none
theorem lsA_ok {Γ : List Sl} {x : AV} {ds : List PyData} {G : Gh} {H : Hp} {σ : St} {v : V} (h : lsA Γ x = some ds) (S : Sta X.K G H σ Γ) (hv : AVok X.K G H σ v x) : ∃ l xs, v = .ref l ∧ SqL X.K H l xs ∧ DnA X.K (rg G true) H xs ds := by
  unfold lsA at h
  split at h
  · rename_i fr ds'
    by_cases hc : (fr || flat.flatA ds') = true
    · rw [if_pos hc] at h
      cases h
      obtain ⟨l, xs, rfl, g1, g2⟩ := dn_list hv
      exact ⟨l, xs, rfl, (g1.mono (S.w.rgl _)).sq, g2.fresh hc⟩
    · rw [if_neg hc] at h; cases h
  · rename_i j
    split at h
    · cases h
      obtain ⟨l, xs, rfl, g1, g2⟩ := S.slotL ‹_› hv
      exact ⟨l, xs, rfl, SqL.of g1, g2⟩
    · cases h
  · cases h
def cutD {α : Type} (ds : List α) (lo hi : Option Int) : List α := (ds.drop (HT.sIx ds.length 0 lo)).take (HT.sIx ds.length ds.length hi - HT.sIx ds.length 0 lo)
theorem DnA.cut {K : PySem.W.Frag} {G : Rg} {H : Hp} {vs : List V} {ds : List PyData} (h : DnA K G H vs ds) (lo hi : Option Int) : DnA K G H (cutV vs lo hi) (cutD ds lo hi) := by
  unfold cutV cutD
  rw [h.length]
  exact (h.drop _).take _
abbrev DO := List Sl → R (Option Int × List Sl)
def rdO (X : Cx) (W : WX) (Γ : List Sl) (m : R (Option Int × List Sl)) : TO := fun σ H Q => ∃ G, Sta X.K G H σ Γ ∧ Pst X W G H σ m fun r G' H' => Sta X.K G' H' σ r.2 → Q r.1 H'
def CO (X : Cx) (W : WX) (e : Option Expr) (f : DO) : Prop := ∀ Γ, PO X e (rdO X W Γ (f Γ))
theorem po_imp {e : Option Expr} {t t' : TO} (h : PO X e t) (k : ∀ σ H Q, t' σ H Q → t σ H Q) : PO X e t' := ⟨fun pins s σ H Q I q => h.run pins s σ H Q I (k σ H Q q)⟩
theorem po_any {e : Option Expr} {α : Type} {t : α → TO} (h : ∀ x, PO X e (t x)) : PO X e (fun σ H Q => ∃ x, t x σ H Q) := ⟨fun pins s σ H Q I ⟨x, q⟩ => (h x).run pins s σ H Q I q⟩
def oNone : DO := fun Γ => .val (none, Γ)
theorem co_none : CO X W none oNone := fun Γ => po_imp po_none fun σ H Q ⟨G, S, q⟩ => q G H (Ext.rf S.w) S
def oSome (f : DF) : DO := fun Γ => (f Γ).bind fun z => (R.ofO (intA z.1)).bind fun i => .val (some i, z.2)
theorem co_some (ha : CE X W e f) : CO X W (some e) (oSome f) := fun Γ => po_imp (po_some (ha Γ)) fun σ H Q ⟨G, S, q⟩ => ⟨G, S, (Pst.bind q).imp fun x G1 H1 e1 q1 v S1 hv => by
  obtain ⟨i, hi, q1⟩ := Pst.ofO q1
  exact ⟨i, intA_ok hi hv, q1 G1 H1 (Ext.rf S1.w) S1⟩⟩
theorem cut_whole {α : Type} (xs : List α) {lo hi : Option Int} (h : HT.sIx xs.length 0 lo = 0 ∧ HT.sIx xs.length xs.length hi = xs.length) : cutD xs lo hi = xs := by
  unfold cutD
  rw [h.1, h.2, List.drop_zero, Nat.sub_zero, List.take_length]
end
end PD
set_option Elab.async false
set_option linter.all false
set_option maxRecDepth 100000
set_option maxHeartbeats 4000000
set_option autoImplicit false
namespace PD
open PySem L2
mutual
def eqK : PyData → PyData → Bool
  | .int i, .int j => decide (i = j)
  | .str x, .str y => decide (x = y)
  | .tuple xs, .tuple ys => eqKs xs ys
  | _, _ => false
def eqKs : List PyData → List PyData → Bool
  | [], [] => true
  | x :: xs, y :: ys => eqK x y && eqKs xs ys
  | _, _ => false
end
theorem eqK_keyD (k k' : Key) : eqK (keyD k) (keyD k') = decide (k = k') := by
  cases k <;> cases k' <;> simp [keyD, eqK]
theorem eqKs_keyD : ∀ (k k' : List Key), eqKs (k.map keyD) (k'.map keyD) = decide (k = k')
  | [], [] => rfl
  | [], _ :: _ => by simp [eqKs]
  | _ :: _, [] => by simp [eqKs]
  | x :: xs, y :: ys => by
    simp only [List.map_cons, eqKs, eqK_keyD, eqKs_keyD xs ys, List.cons.injEq]
    by_cases h : x = y <;> by_cases h2 : xs = ys <;> simp [h, h2]
def kOk : Dk → PyData → Bool
  | .k, d => (dKey d).isSome
  | .t, .tuple ks => (dKeys ks).isSome
  | .t, _ => false
  | .n, _ => false
def getD (kvs : List (PyData × PyData)) (k : PyData) : Option PyData := (kvs.find? fun z => eqK z.1 k).map (·.2)
def putD (kvs : List (PyData × PyData)) (k v : PyData) : List (PyData × PyData) := if kvs.any (fun z => eqK z.1 k) then kvs.map (fun z => if eqK z.1 k then (z.1, v) else z) else kvs ++ [(k, v)]
def kindD : List (PyData × PyData) → Option Dk
  | (.int _, _) :: _ => some .k
  | (.str _, _) :: _ => some .k
  | (.tuple _, _) :: _ => some .t
  | _ => none
theorem kindD_ok {t : Dk} {o : HO} {vs : List V} {kvs : List (PyData × PyData)} {t' : Dk} (h : kindD kvs = some t') {a : Addr} (ho : DcO t a o (kvs.map (·.1)) vs) : t = t' := by
  cases t with
  | k =>
    obtain ⟨ks, rfl, h1, _⟩ := ho
    cases kvs with
    | nil => cases h
    | cons z r =>
      cases ks with
      | nil => cases h1
      | cons y s =>
        obtain ⟨d, v⟩ := z
        have h1 := (List.cons.inj h1).1
        have h1 : d = keyD y.1 := h1
        subst h1
        cases hy : y.1 <;> rw [hy] at h <;> cases h <;> rfl
  | t =>
    obtain ⟨ks, rfl, h1, _⟩ := ho
    cases kvs with
    | nil => cases h
    | cons z r =>
      cases ks with
      | nil => cases h1
      | cons y s =>
        obtain ⟨d, v⟩ := z
        have h1 := (List.cons.inj h1).1
        have h1 : d = .tuple (y.1.map keyD) := h1
        subst h1
        cases h
        rfl
  | n =>
    obtain ⟨rs, kds, _, _, _, h1, _⟩ := ho
    cases kvs with
    | nil => cases h
    | cons z r =>
      obtain ⟨d, v⟩ := z
      have h1 : d = PyData.none := (List.cons.inj h1).1
      subst h1
      cases h
section
variable {κ : Type} [DecidableEq κ] {K : PySem.W.Frag} {G : Rg} {H : Hp}
theorem get_rel {f : κ → PyData} (hf : ∀ a b, eqK (f a) (f b) = decide (a = b)) (k : κ) : ∀ {ks : List (κ × V)} {kvs : List (PyData × PyData)}, kvs.map (·.1) = ks.map (fun z => f z.1) → DnA K G H (ks.map (·.2)) (kvs.map (·.2)) →
    (valV ks k = none ∧ getD kvs (f k) = none) ∨ ∃ v d, valV ks k = some v ∧ getD kvs (f k) = some d ∧ Dn K G H v d
  | [], [], _, _ => .inl ⟨rfl, rfl⟩
  | [], _ :: _, h, _ => by cases h
  | _ :: _, [], h, _ => by cases h
  | (y, u) :: ks, (x, w) :: kvs, h, hd => by
    have h1 : x = f y := (List.cons.inj h).1
    have h2 := (List.cons.inj h).2
    obtain ⟨d1, d2⟩ : Dn K G H u w ∧ DnA K G H (ks.map (·.2)) (kvs.map (·.2)) := by cases hd; exact ⟨‹_›, ‹_›⟩
    subst h1
    by_cases e : y = k
    · subst e
      exact .inr ⟨u, w, by simp [valV], by simp [getD, hf], d1⟩
    · have e1 : valV ((y, u) :: ks) k = valV ks k := by simp [valV, List.find?_cons, e]
      have e2 : getD ((f y, w) :: kvs) (f k) = getD kvs (f k) := by simp [getD, List.find?_cons, hf, e]
      rw [e1, e2]
      exact get_rel hf k h2 d2
theorem any_rel {f : κ → PyData} (hf : ∀ a b, eqK (f a) (f b) = decide (a = b)) (k : κ) : ∀ {ks : List (κ × V)} {kvs : List (PyData × PyData)}, kvs.map (·.1) = ks.map (fun z => f z.1) → (kvs.any fun z => eqK z.1 (f k)) = ks.any fun z => decide (z.1 = k)
  | [], [], _ => rfl
  | [], _ :: _, h => by cases h
  | _ :: _, [], h => by cases h
  | (y, u) :: ks, (x, w) :: kvs, h => by
    have h1 : x = f y := (List.cons.inj h).1
    subst h1
    simp only [List.any_cons, hf, any_rel hf k (List.cons.inj h).2]
theorem rep_rel {f : κ → PyData} (hf : ∀ a b, eqK (f a) (f b) = decide (a = b)) (k : κ) {v : V} {d : PyData} (hv : Dn K G H v d) : ∀ {ks : List (κ × V)} {kvs : List (PyData × PyData)}, kvs.map (·.1) = ks.map (fun z => f z.1) → DnA K G H (ks.map (·.2)) (kvs.map (·.2)) →
    (kvs.map (fun z => if eqK z.1 (f k) then (z.1, d) else z)).map (·.1) = (ks.map (fun z => if z.1 = k then (z.1, v) else z)).map (fun z => f z.1) ∧ DnA K G H ((ks.map (fun z => if z.1 = k then (z.1, v) else z)).map (·.2)) ((kvs.map (fun z => if eqK z.1 (f k) then (z.1, d) else z)).map (·.2))
  | [], [], _, _ => ⟨rfl, .nil⟩
  | [], _ :: _, h, _ => by cases h
  | _ :: _, [], h, _ => by cases h
  | (y, u) :: ks, (x, w) :: kvs, h, hd => by
    have h1 : x = f y := (List.cons.inj h).1
    obtain ⟨d1, d2⟩ : Dn K G H u w ∧ DnA K G H (ks.map (·.2)) (kvs.map (·.2)) := by cases hd; exact ⟨‹_›, ‹_›⟩
    subst h1
    obtain ⟨i1, i2⟩ := rep_rel hf k hv (List.cons.inj h).2 d2
    by_cases e : y = k
    · subst e
      simp only [List.map_cons, hf, decide_true, if_true]
      exact ⟨by rw [i1], .cons hv i2⟩
    · simp only [List.map_cons, hf, e, decide_false, if_false, Bool.false_eq_true]
      exact ⟨by rw [i1], .cons d1 i2⟩
theorem put_rel {f : κ → PyData} (hf : ∀ a b, eqK (f a) (f b) = decide (a = b)) (k : κ) {v : V} {d : PyData} (hv : Dn K G H v d) {ks : List (κ × V)} {kvs : List (PyData × PyData)} (h : kvs.map (·.1) = ks.map (fun z => f z.1)) (hd : DnA K G H (ks.map (·.2)) (kvs.map (·.2))) :
    (putD kvs (f k) d).map (·.1) = (putK ks k v).map (fun z => f z.1) ∧ DnA K G H ((putK ks k v).map (·.2)) ((putD kvs (f k) d).map (·.2)) := by
  unfold putD putK
  rw [any_rel hf k h]
  by_cases e : (ks.any fun z => decide (z.1 = k)) = true
  · rw [if_pos e, if_pos e]
    exact rep_rel hf k hv h hd
  · rw [if_neg e, if_neg e]
    simp only [List.map_append, h, List.map_cons, List.map_nil, true_and]
    exact hd.append (.cons hv .nil)
end
theorem hfK : ∀ a b : Key, eqK (keyD a) (keyD b) = decide (a = b) := eqK_keyD
theorem hfT : ∀ a b : List Key, eqK (.tuple (a.map keyD)) (.tuple (b.map keyD)) = decide (a = b) := eqKs_keyD
theorem dget_rel {K : PySem.W.Frag} {G : Rg} {H : Hp} {a : Addr} {o : HO} {t : Dk} {vs : List V} {kvs : List (PyData × PyData)} {y : V} {k : PyData} {G' : Rg} (hr : Rd H a o) (ho : DcO t a o (kvs.map (·.1)) vs) (hd : DnA K G H vs (kvs.map (·.2))) (hk : kOk t k = true) (hy : Dn K G' H y k) :
    (DGet H a y none ∧ getD kvs k = none) ∨ ∃ v d, DGet H a y (some v) ∧ getD kvs k = some d ∧ Dn K G H v d := by
  cases t with
  | k =>
    obtain ⟨ks, rfl, h1, rfl⟩ := ho
    cases e : dKey k with
    | none => simp [kOk, e] at hk
    | some kk =>
      have hv := dKey_ok e hy
      have he := dKey_eq e
      subst hv he
      rcases get_rel (f := keyD) hfK kk h1 hd with ⟨g1, g2⟩ | ⟨v, d, g1, g2, g3⟩
      · exact .inl ⟨.inl ⟨ks, kk, hr, rfl, g1.symm⟩, g2⟩
      · exact .inr ⟨v, d, .inl ⟨ks, kk, hr, rfl, g1.symm⟩, g2, g3⟩
  | t =>
    obtain ⟨ks, rfl, h1, rfl⟩ := ho
    cases k <;> try (simp [kOk] at hk; done)
    rename_i xs
    cases e : dKeys xs with
    | none => simp [kOk, e] at hk
    | some kk =>
      obtain ⟨b, ws, rfl, hb, hw⟩ := dn_tupleH hy
      have hv := dKeys_ok e hw
      have he := dKeys_eq e
      subst hv he
      rcases get_rel (f := fun z : List Key => .tuple (z.map keyD)) hfT kk h1 hd with ⟨g1, g2⟩ | ⟨v, d, g1, g2, g3⟩
      · exact .inl ⟨.inr ⟨ks, kk, b, hr, rfl, hb, g1.symm⟩, g2⟩
      · exact .inr ⟨v, d, .inr ⟨ks, kk, b, hr, rfl, hb, g1.symm⟩, g2, g3⟩
  | n => cases hk
theorem dput_rel {K : PySem.W.Frag} {G : Rg} {H : Hp} {a : Addr} {o : HO} {t : Dk} {vs : List V} {kvs : List (PyData × PyData)} {y v : V} {k d : PyData} {G' : Rg} (hr : H a = some o) (ho : DcO t a o (kvs.map (·.1)) vs) (hd : DnA K G H vs (kvs.map (·.2))) (hk : kOk t k = true) (hy : Dn K G' H y k) (hv : Dn K G H v d) (hl : kvs.length < sizeLine) :
    ∃ o' vs', DPut H a y v (upd H a o') ∧ DcO t a o' ((putD kvs k d).map (·.1)) vs' ∧ DnA K G H vs' ((putD kvs k d).map (·.2)) := by
  cases t with
  | k =>
    obtain ⟨ks, rfl, h1, rfl⟩ := ho
    cases e : dKey k with
    | none => simp [kOk, e] at hk
    | some kk =>
      have hv' := dKey_ok e hy
      have he := dKey_eq e
      subst hv' he
      obtain ⟨p1, p2⟩ := put_rel (f := keyD) hfK kk hv h1 hd
      have hlen : ks.length = kvs.length := by have := congrArg List.length h1; simpa using this.symm
      exact ⟨_, _, .inl ⟨ks, kk, hr, rfl, by rw [hlen]; exact hl, rfl⟩, ⟨_, rfl, p1, rfl⟩, p2⟩
  | t =>
    obtain ⟨ks, rfl, h1, rfl⟩ := ho
    cases k <;> try (simp [kOk] at hk; done)
    rename_i xs
    cases e : dKeys xs with
    | none => simp [kOk, e] at hk
    | some kk =>
      obtain ⟨b, ws, rfl, hb, hw⟩ := dn_tupleH hy
      have hv' := dKeys_ok e hw
      have he := dKeys_eq e
      subst hv' he
      obtain ⟨p1, p2⟩ := put_rel (f := fun z : List Key => .tuple (z.map keyD)) hfT kk hv h1 hd
      have hlen : ks.length = kvs.length := by have := congrArg List.length h1; simpa using this.symm
      exact ⟨_, _, .inr ⟨ks, kk, b, hr, rfl, hb, by rw [hlen]; exact hl, rfl⟩, ⟨_, rfl, p1, rfl⟩, p2⟩
  | n => cases hk
end PD
set_option Elab.async false
set_option linter.all false
set_option maxRecDepth 100000
set_option maxHeartbeats 4000000
set_option autoImplicit false
namespace PD
open PySem L2
theorem dn_dict {K : PySem.W.Frag} {G : Rg} {H : Hp} {v : V} {kvs : List (PyData × PyData)} (h : Dn K G H v (.dict kvs)) {t0 : Dk} (hk : kindD kvs = some t0) : ∃ a o t vs, v = .ref a ∧ (∃ ob, G a (.frz ob o)) ∧ DcO t a o (kvs.map (·.1)) vs ∧ DnA K G H vs (kvs.map (·.2)) := by
  cases h with
  | dct h1 h2 h3 => exact ⟨_, _, _, _, rfl, h1, h2, h3⟩
  | exc _ _ _ _ => cases hk
  | exc0 _ => cases hk
  | ins _ _ _ _ => cases hk
  | dcu _ _ _ => cases hk
section
variable {X : Cx} {W : WX} {sc : Scope} {N : List Str} {a b c e e2 o : Expr} {es : List Expr} {apos cpos pos p p2 : Pos} {k : DA} {f g : DF} {s : Stmt}
def dicA (Γ : List Sl) : AV → Option (Bool × Dk × List (PyData × PyData))
  | .d fr (.dict kvs) => (kindD kvs).map fun t => (fr, t, kvs)
  | .s j => match Γ[j]? with
    | some (.own (.dic t kvs)) => some (true, t, kvs)
    | some (.io (.dic t kvs)) => some (true, t, kvs)
    | _ => none
  | _ => none
theorem dicA_ok {Γ : List Sl} {x : AV} {z : Bool × Dk × List (PyData × PyData)} {G : Gh} {H : Hp} {σ : St} {v : V} (h : dicA Γ x = some z) (S : Sta X.K G H σ Γ) (hv : AVok X.K G H σ v x) : ∃ l o vs, v = .ref l ∧ Rd H l o ∧ DcO z.2.1 l o (z.2.2.map (·.1)) vs ∧ DnA X.K (rg G z.1) H vs (z.2.2.map (·.2)) := by
  unfold dicA at h
  split at h
  · rename_i fr kvs
    cases hk : kindD kvs with
    | none => rw [hk] at h; cases h
    | some t =>
      rw [hk] at h
      cases h
      obtain ⟨l, o, t', vs, rfl, h1, h2, h3⟩ := dn_dict hv hk
      have := kindD_ok hk h2
      subst this
      exact ⟨l, o, vs, rfl, .inr (h1.imp fun _ z => S.w.rgl fr _ _ z), h2, h3⟩
  · rename_i j
    obtain ⟨A, T⟩ := S
    have hv : σ[j]? = some (some v) := hv
    split at h
    · cases h
      obtain ⟨u, h1, _, p, o, vs, rfl, _, h3, h4, h5⟩ := T.sl j _ ‹_›
      rw [h1] at hv
      cases hv
      exact ⟨p, o, vs, rfl, .inl h3, h4, h5⟩
    · cases h
      obtain ⟨u, h1, _, p, o, vs, rfl, _, h3, h4, h5⟩ := T.sl j _ ‹_›
      rw [h1] at hv
      cases hv
      exact ⟨p, o, vs, rfl, .inl h3, h4, h5⟩
    · cases h
  · cases h
def rIxD : R2 := fun x y H Q => ∃ a v, x = .ref a ∧ DGet H a y (some v) ∧ Q v H
theorem ix_dict (hu : X.A.units + 1 < cLine) : IxR X rIxD := by
  intro value slice pins s σ H x y v u Q I rx ry h hs
  obtain ⟨a, w, rfl, g, q⟩ := h
  cases rx
  exact PyProof.Rows.tail_any (dict_typeIs I g) PySem.F.slot_dict_getitem.lookup (d_getItem hu I g ry fun w' s' I' rw' => ⟨w, H, I', rw', q⟩) hs
def ixB (Γ : List Sl) (x y : AV) : R AV := match dicA Γ x with
  | some z => match y with
    | .d _ kk => (R.req (kOk z.2.1 kk)).bind fun _ => (R.ofO (getD z.2.2 kk)).bind fun d => .val (.d z.1 d)
    | _ => .bad
  | none => ixA Γ x y
def dIxB (f g : DF) : DF := fun Γ => (f Γ).bind fun x => (g x.2).bind fun y => (ixB y.2 x.1 y.1).bind fun z => .val (z, y.2)
theorem ce_ixB (C : Cf0 X W sc N) (ha : CE X W a f) (hb : CE X W b g) (hs : PlainIx b := by exact fun _ _ => rfl) : CE X W (.Subscript a b pos) (dIxB f g) := fun Γ =>
  pe_imp (pe_ix ((ix_dict (u1 C)).or ix_seq) (ha Γ) (pe_any fun x : AV × List Sl => hb x.2) hs) fun σ H Q h => bin_rd (X := X) (W := W) (ava := Prod.fst) (Γa := Prod.snd) (avb := fun _ (y : AV × List Sl) => y.1) (Γb := fun _ (y : AV × List Sl) => y.2) (avk := Prod.fst) (Γk := Prod.snd) (k := fun (x : AV × List Sl) (y : AV × List Sl) => (ixB y.2 x.1 y.1).bind fun z => .val (z, y.2)) (fun x y G H σ u v Q S hu hv p => by
    obtain ⟨x, Γ1⟩ := x
    obtain ⟨y, Γ2⟩ := y
    simp only at hu hv S p
    unfold ixB at p
    split at p
    · rename_i z hz
      split at p
      · rename_i fr kk
        have hk : kOk z.2.1 kk = true := by
          cases hc : kOk z.2.1 kk with
          | true => rfl
          | false => rw [hc] at p; exact p.elim
        rw [hk] at p
        have p : Pst X W G H σ (((R.ofO (getD z.2.2 kk)).bind fun d => R.val (AV.d z.1 d)).bind fun z => .val (z, Γ2)) (fun z G' H' => ∀ (w : V), Sta X.K G' H' σ z.snd → AVok X.K G' H' σ w z.fst → Q w H') := p
        obtain ⟨d, hd⟩ : ∃ d, getD z.2.2 kk = some d := by
          cases hc : getD z.2.2 kk with
          | none => rw [hc] at p; exact p.elim
          | some d => exact ⟨d, rfl⟩
        rw [hd] at p
        obtain ⟨l, o, vs, rfl, h1, h2, h3⟩ := dicA_ok hz S hu
        rcases dget_rel h1 h2 h3 hk hv with ⟨_, g2⟩ | ⟨w, d', g1, g2, g3⟩
        · rw [hd] at g2; cases g2
        · rw [hd] at g2; cases g2
          exact .inl ⟨l, w, rfl, g1, p G H (Ext.rf S.w) w S g3⟩
      · exact p.elim
    · rename_i hnone
      clear hnone
      refine .inr ?_
      unfold ixA at p
      split at p
      · rename_i fr ds _ i
        cases hz : atI ds i with
        | none => rw [hz] at p; exact p.elim
        | some d =>
          rw [hz] at p
          obtain ⟨q, xs, rfl, g1, g2⟩ := dn_list hu
          obtain ⟨w, g3, g4⟩ := atI_dn g2 hz
          exact .inl ⟨q, xs, i, w, rfl, dn_int hv, (g1.mono (S.w.rgl fr)).sq, g3, p G H (Ext.rf S.w) w S g4⟩
      · rename_i fr ds _ i
        cases hz : atI ds i with
        | none => rw [hz] at p; exact p.elim
        | some d =>
          rw [hz] at p
          obtain ⟨q, xs, rfl, g1, g2⟩ := dn_tuple hu
          obtain ⟨w, g3, g4⟩ := atI_dn g2 hz
          exact .inr (.inl ⟨q, xs, i, w, rfl, dn_int hv, g1, g3, p G H (Ext.rf S.w) w S g4⟩)
      · rename_i j _ i
        split at p
        · rename_i ds hd
          cases hz : atI ds i with
          | none => rw [hz] at p; exact p.elim
          | some d =>
            rw [hz] at p
            obtain ⟨q, xs, rfl, g1, g2⟩ := S.slotL hd hu
            obtain ⟨w, g3, g4⟩ := atI_dn g2 hz
            exact .inl ⟨q, xs, i, w, rfl, dn_int hv, SqL.of g1, g3, p G H (Ext.rf S.w) w S g4⟩
        · exact p.elim
      · exact p.elim) h
def kInB (Γ : List Sl) (x y : AV) : R Bool := match dicA Γ y with
  | some z => match rdD Γ x with
    | some kk => gq (kOk z.2.1 kk) (getD z.2.2 kk).isSome
    | none => .bad
  | none => kIn Γ x y
def kNinB (Γ : List Sl) (x y : AV) : R Bool := (kInB Γ x y).bind fun z => .val (!z)
def cellC (Γ : List Sl) (i : Nat) : Option (Bool × Cl) := match Γ[i]? with
  | some (.own c) => some (false, c)
  | some (.io c) => some (true, c)
  | _ => none
theorem cellC_ok {Γ : List Sl} {i : Nat} {z : Bool × Cl} (h : cellC Γ i = some z) : Γ[i]? = some (mkS z.1 z.2) := by
  unfold cellC at h
  split at h
  · cases h; exact ‹_›
  · cases h; exact ‹_›
  · cases h
def putC : Cl → PyData → PyData → Option Cl
  | .lst ds, .int k, v => (ixN ds.length k).map fun j => .lst (ds.set j v)
  | .dic t kvs, k, v => if kOk t k && decide (kvs.length < sizeLine) then some (.dic t (putD kvs k v)) else none
  | _, _, _ => none
theorem putC_cases {c c' : Cl} {k v : PyData} (h : putC c k v = some c') : (∃ ds k' j, c = .lst ds ∧ k = .int k' ∧ ixN ds.length k' = some j ∧ c' = .lst (ds.set j v)) ∨ ∃ t kvs, c = .dic t kvs ∧ kOk t k = true ∧ kvs.length < sizeLine ∧ c' = .dic t (putD kvs k v) := by
  unfold putC at h
  split at h
  · rename_i ds k'
    cases hj : ixN ds.length k' with
    | none => rw [hj] at h; cases h
    | some j => rw [hj] at h; cases h; exact .inl ⟨ds, k', j, rfl, rfl, hj, rfl⟩
  · rename_i t kvs
    split at h
    · rename_i hc
      cases h
      rw [Bool.and_eq_true] at hc
      exact .inr ⟨t, kvs, rfl, hc.1, of_decide_eq_true hc.2, rfl⟩
    · cases h
  · cases h
def bPut (i : Nat) (fe fi : DF) : DS := fun Γ => (dFrz fe Γ).bind fun z => (R.ofO (cellC z.2 i)).bind fun _ => (fi z.2).bind fun y => (R.ofO (cellC y.2 i)).bind fun c => match z.1, y.1 with
  | .d true v, .d _ kk => (R.ofO (putC c.2 kk v)).bind fun c' => .val (.nx, y.2.set i (mkS c.1 c'))
  | _, _ => .bad
theorem tup_mut {H : Hp} {p : Addr} {o o' : HO} (h : H p = some o) (ht : ∀ xs, o ≠ .tup xs) : TupLe H (upd H p o') := fun a xs e => by
  have : a ≠ p := fun q => by rw [q, h] at e; exact ht xs (Option.some.inj e)
  rw [upd_ne this]; exact e
theorem c1_put (C : Cf0 X W sc N) (i : Nat) {x : Str} {p' tpos : Pos} {fe fi : DF} (hN : N[i]? = some x) (hv : visB sc x = true) (he : CE X W e fe) (hi : CE X W b fi) (hd : (x == ("__debug__" : Str)) = false := by decide +kernel) (hcd : (x == ("__classdict__" : Str)) = false := by decide +kernel)
    (has : ∀ v, assign (.Subscript (.Name x p') b tpos) X.env v = (do
      let ov ← holding [v] (eval (.Name x p') X.env)
      let iv ← holding [v, ov] (eval b X.env)
      standAt tpos
      holding [v, ov, iv] (setItem ov iv v)
      release [v, ov, iv] []) := by intro _; rfl)
    (hs : swapsWithSole [.Subscript (.Name x p') b tpos] e pos.line X.env = pure false := by rfl) (hw : swappedStores [.Subscript (.Name x p') b tpos] e X.env = pure none := by rfl) (h1 : (assignEach [.Subscript (.Name x p') b tpos] X.env).map (·.2) = [assign (.Subscript (.Name x p') b tpos) X.env] := by rfl) :
    C1 X W (.Assign [.Subscript (.Name x p') b tpos] e pos) (bPut i fe fi) := fun Γ =>
  ps_imp (ps_asg (ce_frz he Γ) (pg_sub (pe_any fun z : {z : AV × List Sl // (cellC z.2 i).isSome} => evp_cell (W := W) (c := ((cellC z.1.2 i).get z.2).2) C (cellC_ok (Option.some_get _).symm) hN hv hd hcd) (pe_any fun z : AV × List Sl => hi z.2) (set_or set_list (set_dict (u1 C))) has) hs hw h1) fun D σ H ⟨G, S, p⟩ => ⟨G, S, (Pst.bind p).imp fun z G1 H1 e1 p1 v S1 a1 => by
    obtain ⟨c0, hc0, p1⟩ := Pst.ofO p1
    refine ⟨⟨z, by rw [hc0]; rfl⟩, G1, S1, fun G2 H2 e2 u S2 hu => ⟨z, G2, S2, (Pst.bind (Pst.ext p1 e2)).imp fun y G3 H3 e3 p3 w S3 hw3 => ?_⟩⟩
    obtain ⟨c, hc, p3⟩ := Pst.ofO p3
    have hu : σ[i]? = some (some u) := hu
    obtain ⟨u', fp, g1, g2, g3⟩ := S3.chg1 i c.1 (cellC_ok hc)
    rw [hu] at g1
    cases g1
    have a1 := a1.ext (e2.tr e3)
    split at p3
    · rename_i vd fr kk hz hy
      rw [hz] at a1
      rw [hy] at hw3
      obtain ⟨c', hc', p3⟩ := Pst.ofO p3
      have a1 : Dn X.K (rg G3 true) H3 v vd := a1
      have hw3 : Dn X.K (rg G3 fr) H3 w kk := hw3
      have fin : ∀ H4, Sta X.K G3 H4 σ (y.2.set i (mkS c.1 c')) ∧ Ext G3 H3 G3 H4 → D.nx σ H4 := fun H4 ⟨S4, e4⟩ => p3 G3 H4 e4 σ S4
      obtain ⟨io, cc⟩ := c
      have g2 : cc.ok X.K (rg G3 true) H3 u fp := g2
      rcases putC_cases hc' with ⟨ds, k', j, e1, rfl, hj, rfl⟩ | ⟨t, kvs, e1, hk, hl, rfl⟩
      · have e1 : cc = .lst ds := e1
        subst e1
        obtain ⟨q, vs, rfl, hfp, hq, hd'⟩ := g2
        refine .inl ⟨q, vs, k', j, rfl, dn_int hw3, hq, by rw [hd'.length]; exact hj, fin _ (g3 q _ _ _ hfp hq (fun _ h => by cases h) (fun _ _ h => by cases h) ⟨q, _, rfl, rfl, upd_same, ?_⟩)⟩
        exact (DnA.set a1 j hd').mono (fun _ _ z => z) (tup_mut hq (fun _ h => by cases h))
      · have e1 : cc = .dic t kvs := e1
        subst e1
        obtain ⟨q, o, vs, rfl, hfp, hq, ho, hd'⟩ := g2
        obtain ⟨o', vs', k1, k2, k3⟩ := dput_rel hq ho hd' hk hw3 a1 hl
        have nt : (∀ xs, o ≠ .tup xs) ∧ ∀ x y, o ≠ .frz x y := by
          cases t with
          | k => obtain ⟨_, rfl, _⟩ := ho; exact ⟨fun _ h => (by cases h), fun _ _ h => (by cases h)⟩
          | t => obtain ⟨_, rfl, _⟩ := ho; exact ⟨fun _ h => (by cases h), fun _ _ h => (by cases h)⟩
          | n => cases hk
        exact .inr ⟨q, _, rfl, k1, fin _ (g3 q _ _ _ hfp hq nt.1 nt.2 ⟨q, o', vs', rfl, rfl, upd_same, k2, k3.mono (fun _ _ z => z) (tup_mut hq nt.1)⟩)⟩
    · exact p3.elim⟩
end
end PD
set_option Elab.async false
set_option linter.all false
set_option maxRecDepth 100000
set_option maxHeartbeats 4000000
set_option autoImplicit false
namespace PD
open PySem L2
section
variable {X : Cx} {W : WX} {sc : Scope} {N : List Str} {a b c e e2 e3 o tg : Expr} {es : List Expr} {apos cpos pos p p1 p2 p3 : Pos} {k : DA} {f g h : DF} {s : Stmt}
def intS : Option Sl → Option Int
  | some (.dat _ (.int i)) => some i
  | _ => none
def bInc (i : Nat) (fe : DF) : DS := fun Γ => (R.ofO (intS Γ[i]?)).bind fun n => (fe Γ).bind fun z => (R.ofO (intA z.1)).bind fun m => .val (.nx, z.2.set i (.dat true (.int (n + m))))
end
end PD
set_option Elab.async false
set_option linter.all false
set_option maxRecDepth 100000
set_option maxHeartbeats 4000000
set_option autoImplicit false
namespace PD
open PySem L2
theorem Sta.feed {K : PySem.W.Frag} {G : Gh} {H : Hp} {σ : St} {Γ : List Sl} {f : Fd} (S : Sta K G H σ Γ) (i : Nat) (io : Bool) (hi : Γ[i]? = some (mkS io (.feed f))) :
    ∃ d l, σ[i]? = some (some (.ref d)) ∧ d ≠ l ∧ H d = some (.dK (fdK l f.2.1 f.2.2)) ∧ H l = some (.lst (f.1.map V.int)) ∧
      (∀ t s, Sta K G (upd H d (.dK (fdK l t s))) σ (Γ.set i (mkS io (.feed (f.1, t, s)))) ∧ Ext G H G (upd H d (.dK (fdK l t s)))) ∧
      (∀ ns : List Int, Sta K G (upd H l (.lst (ns.map V.int))) σ (Γ.set i (mkS io (.feed (ns, f.2)))) ∧ Ext G H G (upd H l (.lst (ns.map V.int)))) ∧
      (∀ l' (ns : List Int), H l' = none → Sta K G (upd (upd H l' (.lst (ns.map V.int))) d (.dK (fdK l' f.2.1 f.2.2))) σ (Γ.set i (mkS io (.feed (ns, f.2)))) ∧ Ext G H G (upd (upd H l' (.lst (ns.map V.int))) d (.dK (fdK l' f.2.1 f.2.2)))) := by
  obtain ⟨A, T⟩ := S
  have hlt : i < Γ.length := (List.getElem?_eq_some_iff.mp hi).1
  have key : ∃ d l, σ[i]? = some (some (.ref d)) ∧ A i = [d, l] ∧ d ≠ l ∧ H d = some (.dK (fdK l f.2.1 f.2.2)) ∧ H l = some (.lst (f.1.map V.int)) ∧
      ∀ (G' : Gh) (H' : Hp) (f' : Fd) (fp' : List Addr), G'.I = G.I → G'.H0 = G.H0 → (Cl.feed f').ok K (RgN G') H' (.ref d) fp' → (∀ p ∈ fp', p ∈ A i ∨ G.H0 p = none) → SlOk K G' H' i σ[i]? fp' (mkS io (.feed f')) := by
    have hs := T.sl i _ hi
    cases io with
    | true =>
      obtain ⟨v, h1, h2, d, l, rfl, h3, h4, h5, h6⟩ := hs
      exact ⟨d, l, h1, h3, h4, h5, h6, fun G' H' f' fp' gi _ ok _ => ⟨_, h1, by rw [gi]; exact h2, ok⟩⟩
    | false =>
      obtain ⟨v, h1, h2, d, l, rfl, h3, h4, h5, h6⟩ := hs
      refine ⟨d, l, h1, h3, h4, h5, h6, fun G' H' f' fp' _ g0 ok hp => ⟨_, h1, fun p hp' => ?_, ok⟩⟩
      rw [g0]
      rcases hp p hp' with q | q
      · exact h2 p q
      · exact q
  obtain ⟨d, l, h1, hA, hne, hd, hl, mk⟩ := key
  have ad := T.al i d (by rw [hA]; simp)
  have al := T.al i l (by rw [hA]; simp)
  refine ⟨d, l, h1, hne, hd, hl, fun t s => ?_, fun ns => ?_, fun l' ns hl' => ?_⟩
  · refine T.step (i := i) (fp' := [d, l]) (grow_mut T.w hd ad.2.1 (fun _ => by simp) (fun _ _ => by simp)) (fun p hp => by rw [hA]; simp at hp; simp [hp]) (fun _ _ => rfl) rfl (fun _ => mk _ _ _ _ rfl rfl ⟨d, l, rfl, rfl, hne, upd_same, by rw [upd_ne (Ne.symm hne)]; exact hl⟩ fun p hp => .inl (by rw [hA]; exact hp)) (fun p hp => ?_)
    simp only [List.mem_cons, List.not_mem_nil, or_false] at hp
    rcases hp with rfl | rfl
    · exact ⟨by rw [upd_same]; simp, ad.2.1, .inl (by rw [hA]; simp)⟩
    · exact ⟨by rw [upd_ne (Ne.symm hne), hl]; simp, al.2.1, .inl (by rw [hA]; simp)⟩
  · refine T.step (i := i) (fp' := [d, l]) (grow_mut T.w hl al.2.1 (fun _ => by simp) (fun _ _ => by simp)) (fun p hp => by rw [hA]; simp at hp; simp [hp]) (fun _ _ => rfl) rfl (fun _ => mk _ _ _ _ rfl rfl ⟨d, l, rfl, rfl, hne, by rw [upd_ne hne]; exact hd, upd_same⟩ fun p hp => .inl (by rw [hA]; exact hp)) (fun p hp => ?_)
    simp only [List.mem_cons, List.not_mem_nil, or_false] at hp
    rcases hp with rfl | rfl
    · exact ⟨by rw [upd_ne hne, hd]; simp, ad.2.1, .inl (by rw [hA]; simp)⟩
    · exact ⟨by rw [upd_same]; simp, al.2.1, .inl (by rw [hA]; simp)⟩
  · obtain ⟨fN, f0, _⟩ := T.w.fresh hl'
    have hdl : d ≠ l' := fun e => by rw [e, hl'] at hd; cases hd
    have g : Grow G H G.N (upd (upd H l' (.lst (ns.map V.int))) d (.dK (fdK l' f.2.1 f.2.2))) [d] := by
      refine ⟨fun a x e hp => ?_, fun a ha => ?_, fun a xs e => ?_, fun _ _ e => e, fun a x e => ⟨?_, .inl e⟩⟩
      · have h2 : a ≠ d := by simpa using hp
        have h3 : a ≠ l' := fun q => by rw [q, hl'] at e; cases e
        rw [upd_ne h2, upd_ne h3]; exact e
      · have : a = d := by simpa using ha
        rw [this, upd_same]; simp
      · have h3 : a ≠ l' := fun q => by rw [q, hl'] at e; cases e
        have h2 : a ≠ d := fun q => by rw [q, hd] at e; cases e
        rw [upd_ne h2, upd_ne h3]; exact e
      · have h2 : a ≠ d := fun q => by rw [q, ad.2.1] at e; cases e
        have h3 : a ≠ l' := fun q => by rw [q, fN] at e; cases e
        rw [upd_ne h2, upd_ne h3]; exact (T.w.new a x e).1
    refine T.step (i := i) (fp' := [d, l']) g (fun p hp => by rw [hA]; simp at hp; simp [hp]) (fun _ _ => rfl) rfl (fun _ => mk _ _ _ _ rfl rfl ⟨d, l', rfl, rfl, hdl, upd_same, by rw [upd_ne (Ne.symm hdl), upd_same]⟩ fun p hp => ?_) (fun p hp => ?_)
    · simp only [List.mem_cons, List.not_mem_nil, or_false] at hp
      rcases hp with rfl | rfl
      · exact .inl (by rw [hA]; simp)
      · exact .inr f0
    · simp only [List.mem_cons, List.not_mem_nil, or_false] at hp
      rcases hp with rfl | rfl
      · exact ⟨by rw [upd_same]; simp, ad.2.1, .inl (by rw [hA]; simp)⟩
      · exact ⟨by rw [upd_ne (Ne.symm hdl), upd_same]; simp, fN, .inr hl'⟩
structure EqT {α : Type} [DecidableEq α] (enc : α → PyData) (k : Nat) : Prop where
  lay : ∀ x, (enc x).canLay0 = true
  dep : ∀ x, (enc x).depth ≤ k
  eq : ∀ x y, PyData.eqv (enc x) (enc y) = decide (x = y)
theorem eqt_int : EqT PyData.int 0 := ⟨fun _ => rfl, fun _ => Nat.le_refl _, fun x y => by show (x == y) = _; rfl⟩
section
variable {α β γ : Type} [DecidableEq α] [DecidableEq β] [DecidableEq γ] {e1 : α → PyData} {e2 : β → PyData} {e3 : γ → PyData} {k k2 k3 : Nat}
theorem EqT.layA (h : EqT e1 k) : ∀ xs : List α, PyData.canLayAll0 (xs.map e1) = true
  | [] => rfl
  | x :: xs => by simp [PyData.canLayAll0, h.lay x, EqT.layA h xs]
theorem EqT.depA (h : EqT e1 k) : ∀ xs : List α, PyData.depthAll (xs.map e1) ≤ k
  | [] => Nat.zero_le _
  | x :: xs => by
    have a := h.dep x
    have b := EqT.depA h xs
    simp only [List.map_cons, PyData.depthAll]
    omega
theorem EqT.eqA (h : EqT e1 k) : ∀ xs ys : List α, PyData.eqvAll (xs.map e1) (ys.map e1) = decide (xs = ys)
  | [], [] => rfl
  | [], y :: ys => by simp [PyData.eqvAll]
  | x :: xs, [] => by simp [PyData.eqvAll]
  | x :: xs, y :: ys => by simp [PyData.eqvAll, h.eq x y, EqT.eqA h xs ys]
theorem eqt_list (h : EqT e1 k) : EqT (fun xs : List α => PyData.list (xs.map e1)) (k + 1) :=
  ⟨fun xs => by simpa [PyData.canLay0] using h.layA xs, fun xs => by simpa [PyData.depth] using h.depA xs, fun xs ys => by simpa [PyData.eqv] using h.eqA xs ys⟩
theorem EqT.sh (h : EqT e1 k) (hk : k ≤ 64) (x : α) : SeqAt.shaped (e1 x) = true := by
  unfold SeqAt.shaped
  rw [h.lay x, Bool.true_and]
  exact decide_eq_true (Nat.le_trans (h.dep x) hk)
end
def cellF (Γ : List Sl) (i : Nat) : Option (Bool × Fd) := match Γ[i]? with
  | some (.own (.feed f)) => some (false, f)
  | some (.io (.feed f)) => some (true, f)
  | _ => none
section
variable {X : Cx} {W : WX} {sc : Scope} {N : List Str} {e : Expr} {pos p p2 p3 : Pos} {x : Str} {fe : DF}
def dFdT (i : Nat) : DF := fun Γ => (R.ofO (cellF Γ i)).bind fun z => .val (.d true (.int z.2.2.1), Γ)
def dFdS (i : Nat) : DF := fun Γ => (R.ofO (cellF Γ i)).bind fun z => .val (.d true (.int z.2.2.2), Γ)
def dFd0 (i : Nat) : DF := fun Γ => (R.ofO (cellF Γ i)).bind fun z => (R.ofO (atI z.2.1 0)).bind fun n => .val (.d true (.int n), Γ)
def dFdN (i : Nat) : DF := fun Γ => (R.ofO (cellF Γ i)).bind fun z => .val (.d true (.bool (!decide (z.2.1 = ([] : List Int)))), Γ)
def bFdT (i : Nat) (fe : DF) : DS := fun Γ => (fe Γ).bind fun y => (R.ofO (intA y.1)).bind fun n => (R.ofO (cellF y.2 i)).bind fun z => .val (.nx, y.2.set i (mkS z.1 (.feed (z.2.1, n, z.2.2.2))))
def bFdS (i : Nat) (fe : DF) : DS := fun Γ => (fe Γ).bind fun y => (R.ofO (intA y.1)).bind fun n => (R.ofO (cellF y.2 i)).bind fun z => .val (.nx, y.2.set i (mkS z.1 (.feed (z.2.1, z.2.2.1, n))))
def bFd0 (i : Nat) (fe : DF) : DS := fun Γ => (fe Γ).bind fun y => (R.ofO (intA y.1)).bind fun n => (R.ofO (cellF y.2 i)).bind fun z => (R.req (!decide (z.2.1 = ([] : List Int)))).bind fun _ => .val (.nx, y.2.set i (mkS z.1 (.feed (z.2.1.set 0 n, z.2.2))))
def bFdC (i : Nat) : DS := fun Γ => (R.ofO (cellF Γ i)).bind fun z => .val (.nx, Γ.set i (mkS z.1 (.feed (z.2.1.drop 1, z.2.2))))
end
end PD
set_option Elab.async false
set_option linter.all false
set_option maxRecDepth 100000
set_option maxHeartbeats 4000000
set_option autoImplicit false
namespace PD
open PySem L2
section
variable {X : Cx} {W : WX} {sc : Scope} {N : List Str} {pos : Pos} {x : Str}
end
end PD
set_option Elab.async false
set_option linter.all false
set_option maxRecDepth 100000
set_option maxHeartbeats 4000000
set_option autoImplicit false
namespace PD
open PySem L2
def Gv (P : Program) (w : World) (K : PySem.W.Frag) (mg : Str → Option Value) (base : Heap) (k : Nat) (x : Str) (dvs : List V) (sp : Sp) : Prop :=
  ∃ (f : Addr) (fd : FuncData) (ps : List Str) (ds : List Value), FnOk P w K mg base (L2.CX P w) k f fd ps sp ∧ mg x = some (.ref f) ∧ PySem.W.keepIn K (.ref f) = true ∧ Binds K fd ps ds ∧ Vals dvs ds
theorem Gv.clee {P : Program} {w : World} {K : PySem.W.Frag} {mg : Str → Option Value} {base : Heap} {k k' : Nat} {x : Str} {dvs : List V} {sp : Sp} {X : Cx} {W : WX} {scope : Scope} {N : List Str} (g : Gv P w K mg base k x dvs sp) (h : Here X W P w K mg base scope N k') (hk : k ≤ k') : Clee X x dvs sp := by
  obtain ⟨f, fd, ps, ds, h1, h2, h3, h4, h5⟩ := g
  refine ⟨k, f, fd, ps, ds, ?_, h.room.mono hk, ?_, ?_, ?_, h5⟩
  · rw [h.prog, h.w, h.K, h.mg, h.base]; exact h1
  · rw [h.mg]; exact h2
  · rw [h.K]; exact h3
  · rw [h.K]; exact h4
theorem Gv.of {P : Program} {w : World} {K : PySem.W.Frag} {mg : Str → Option Value} {base : Heap} {k : Nat} {x x' qual : Str} {params : Arguments} {body : List Stmt} {scope : Scope} {dvs : List V} {kws : List (Str × V)} {f : Addr} {fd : FuncData} {ps : List Str} {dv : List V} {ds : List Value} {sp : Sp}
    (F : FunD K x qual params body scope dvs kws f fd) (hm : mg x' = some (.ref f)) (ok : FnOk P w K mg base (L2.CX P w) k f fd ps sp) (b : Binds K fd ps ds) (hv : Vals dv ds) : Gv P w K mg base k x' dv sp := ⟨f, fd, ps, ds, ok, hm, F.kp, b, hv⟩
section
variable {X : Cx} {W : WX} {sc : Scope} {N : List Str} {a b c e : Expr} {es : List Expr} {pos p : Pos} {Γ : List Sl}
def GvK (P : Program) (w : World) (K : PySem.W.Frag) (mg : Str → Option Value) (base : Heap) (k : Nat) (x : Str) (n : Nat) (ks : List Str) (dvs : List V) (sp : Sp) : Prop :=
  ∃ (f : Addr) (fd : FuncData) (ps : List Str) (its : List Value), FnOk P w K mg base (L2.CX P w) k f fd ps sp ∧ mg x = some (.ref f) ∧ PySem.W.keepIn K (.ref f) = true ∧ KBn K fd ps n ks (fun us ws => us ++ ws ++ its) (fun vs zs => vs ++ zs ++ dvs)
def CleeK (X : Cx) (x : Str) (n : Nat) (ks : List Str) (dvs : List V) (sp : Sp) : Prop :=
  ∃ (k : Nat) (f : Addr) (fd : FuncData) (ps : List Str) (its : List Value), FnOk X.prog X.w X.K X.mg X.base (L2.CX X.prog X.w) k f fd ps sp ∧ Room k X.A ∧ X.mg x = some (.ref f) ∧ PySem.W.keepIn X.K (.ref f) = true ∧ KBn X.K fd ps n ks (fun us ws => us ++ ws ++ its) (fun vs zs => vs ++ zs ++ dvs)
theorem GvK.clee {P : Program} {w : World} {K : PySem.W.Frag} {mg : Str → Option Value} {base : Heap} {k k' : Nat} {x : Str} {n : Nat} {ks : List Str} {dvs : List V} {sp : Sp} {scope : Scope} (g : GvK P w K mg base k x n ks dvs sp) (h : Here X W P w K mg base scope N k') (hk : k ≤ k') : CleeK X x n ks dvs sp := by
  obtain ⟨f, fd, ps, its, g1, g2, g3, g4⟩ := g
  refine ⟨k, f, fd, ps, its, ?_, h.room.mono hk, ?_, ?_, ?_⟩
  · rw [h.prog, h.w, h.K, h.mg, h.base]; exact g1
  · rw [h.mg]; exact g2
  · rw [h.K]; exact g3
  · rw [h.K]; exact g4
theorem CleeK.blk {x : Str} {n : Nat} {ks : List Str} {dvs : List V} {sp : Sp} (h : CleeK X x n ks dvs sp) {s : Shared} {H : Hp} {scope : Scope} {ce : Env} {fp : List Addr} : CleeK (X.blk s H scope ce fp) x n ks dvs sp := h
theorem Gv.u {P : Program} {w : World} {K : PySem.W.Frag} {mg : Str → Option Value} {base : Heap} {k k' : Nat} {x : Str} {dvs : List V} {m : List Ar → R (Rs × List Sl)} {scope : Scope} (g : Gv P w K mg base k x dvs (spU K mg m)) (h : Here X W P w K mg base scope N k') (hk : k ≤ k') : Clee X x dvs (spU X.K X.mg m) := by
  have := g.clee h hk
  rw [h.K, h.mg]
  exact this
theorem GvK.u {P : Program} {w : World} {K : PySem.W.Frag} {mg : Str → Option Value} {base : Heap} {k k' : Nat} {x : Str} {n : Nat} {ks : List Str} {dvs : List V} {m : List Ar → R (Rs × List Sl)} {scope : Scope} (g : GvK P w K mg base k x n ks dvs (spU K mg m)) (h : Here X W P w K mg base scope N k') (hk : k ≤ k') : CleeK X x n ks dvs (spU X.K X.mg m) := by
  have := g.clee h hk
  rw [h.K, h.mg]
  exact this
theorem cs_bad {ss : List Stmt} : CS X W ss bBad := fun Γ => ⟨fun pins s σ H D I ⟨G, S, p⟩ => p.elim⟩
section
variable {x : Str} {dvs : List V} {dds : List PyData} {m : List Ar → R (Rs × List Sl)} {kws : List Keyword} {ks : List Str} {n : Nat} {k kk : DA}
theorem AVs.append {K : PySem.W.Frag} {G : Gh} {H : Hp} {σ : St} : ∀ {vs us : List V} {as bs : List AV}, AVs K G H σ vs as → AVs K G H σ us bs → AVs K G H σ (vs ++ us) (as ++ bs)
  | _, _, _, _, .nil, h => h
  | _, _, _, _, .cons q r, h => .cons q (AVs.append r h)
end
end
end PD
set_option Elab.async false
set_option linter.all false
set_option maxRecDepth 100000
set_option maxHeartbeats 4000000
set_option autoImplicit false
namespace PD
open PySem L2
abbrev DX := List Sl → R (Rs × List Sl)
def FinX (K : PySem.W.Frag) (G : Gh) (H : Hp) (σ : St) (Γ : List Sl) (Q : VK) : Rs → Prop
  | .d x => ∀ v, Sta K G H σ Γ → Dn K (rg G true) H v x → Q v H
  | .c c => ∀ v H2, Sta K G H σ Γ → NewC K (rg G true) H c v H2 → Q v H2
def rdX (X : Cx) (W : WX) (Γ : List Sl) (m : R (Rs × List Sl)) : TE := fun σ H Q => ∃ G, Sta X.K G H σ Γ ∧ Pst X W G H σ m fun r G' H' => FinX X.K G' H' σ r.2 Q r.1
def CX (X : Cx) (W : WX) (e : Expr) (f : DX) : Prop := ∀ Γ, PE X e (rdX X W Γ (f Γ))
section
variable {X : Cx} {W : WX} {sc : Scope} {N : List Str} {e : Expr} {es : List Expr} {pos p : Pos} {x : Str} {dvs : List V} {dds : List PyData} {m : List Ar → R (Rs × List Sl)} {kws : List Keyword} {ks : List Str} {n : Nat} {k kk : DA} {f : DX}
def xC (n : DC) : DX := fun Γ => (n Γ).bind fun z => .val (.c z.1, z.2)
theorem cx_c {n : DC} (h : CC X W e n) : CX X W e (xC n) := fun Γ => pe_imp (h Γ) fun σ H Q ⟨G, S, q⟩ => ⟨G, S, (Pst.bind q).imp fun z G1 H1 e1 p1 v H2 S1 nc => p1 G1 H1 (Ext.rf S1.w) v H2 S1 nc⟩
def xCall (m : List Ar → R (Rs × List Sl)) (dds : List PyData) (k : DA) : DX := fun Γ => (k Γ).bind fun z => (R.ofO (rdDs z.2 none z.1)).bind fun ds => ((m ((ds ++ dds).map Ar.d)).atX z.2).bind fun r => .val (r.1, z.2)
theorem cx_call (C : Cf0 X W sc N) (hc : Clee X x dvs (spU X.K X.mg m)) (hg : glB sc x = true) (hdv : ∀ G H, DnA X.K G H dvs dds) (ha : CA X W (e :: es) k)
    (hdb : (x == ("__debug__" : Str)) = false := by decide +kernel) (he : starEach (e :: es) X.env = (false, eval e X.env) :: starEach es X.env := by rfl) (hpl : (backTo pos (starEach es X.env)).any (·.1) = false := by rfl) : CX X W (.Call (.Name x p) (e :: es) [] pos) (xCall m dds k) := fun Γ => by
  obtain ⟨k', f, fd, ps, dss, F, hr, hm, hk, hb, hd⟩ := hc
  refine pe_imp (pe_callSD (E := fun σ cls d H => W cls d σ H) F hr (C.gl hg) hm hk hb hd (fun σ => passAt C.tk σ) (ha Γ) hdb he hpl) fun σ H Q ⟨G, S, q⟩ => ⟨G, S, (Pst.bind q).imp fun z G1 H1 e1 p1 vs S1 av => ?_⟩
  obtain ⟨ds, hds, p1⟩ := Pst.ofO p1
  refine callD_core hdv S1 av hds ((Pst.bind p1).imp fun r G2 H2 e2 p2 S2 => ?_)
  cases hz : r.1 with
  | d w =>
    have p2 := p2 G2 H2 (Ext.rf S2.w)
    rw [hz] at p2
    exact fun v hv => p2 v S2 hv
  | c w =>
    have p2 := p2 G2 H2 (Ext.rf S2.w)
    rw [hz] at p2
    exact fun v H3 hn => p2 v H3 S2 hn
def xCallC (m : List Ar → R (Rs × List Sl)) (n : Nat) (dds : List PyData) (k : DA) : DX := fun Γ => (k Γ).bind fun z => (preC n dds z).bind fun y => ((m y.2.2).atC n z.2 y.1 y.2.1).bind fun r => .val (r.1, r.2)
theorem cx_callC (C : Cf0 X W sc N) (n : Nat) (hc : Clee X x dvs (spU X.K X.mg m)) (hg : glB sc x = true) (hdv : ∀ G H, DnA X.K G H dvs dds) (ha : CA X W (e :: es) k)
    (hdb : (x == ("__debug__" : Str)) = false := by decide +kernel) (he : starEach (e :: es) X.env = (false, eval e X.env) :: starEach es X.env := by rfl) (hpl : (backTo pos (starEach es X.env)).any (·.1) = false := by rfl) : CX X W (.Call (.Name x p) (e :: es) [] pos) (xCallC m n dds k) := fun Γ => by
  obtain ⟨k', f, fd, ps, dss, F, hr, hm, hk, hb, hd⟩ := hc
  refine pe_imp (pe_callSD (E := fun σ cls d H => W cls d σ H) F hr (C.gl hg) hm hk hb hd (fun σ => passAt C.tk σ) (ha Γ) hdb he hpl) fun σ H Q ⟨G, S, q⟩ => ⟨G, S, (Pst.bind q).imp fun z G1 H1 e1 p1 vs S1 av => ?_⟩
  obtain ⟨i, ic, ds, h1, h2, h3, h4, p1⟩ := preC_ok p1
  refine callC_core hdv S1 av h1 h2 h3 h4 ((Pst.bind p1).imp fun r G2 H2 e2 p2 S2 => ?_)
  cases hz : r.1 with
  | d w =>
    have p2 := p2 G2 H2 (Ext.rf S2.w)
    rw [hz] at p2
    exact fun v hv => p2 v S2 hv
  | c w =>
    have p2 := p2 G2 H2 (Ext.rf S2.w)
    rw [hz] at p2
    exact fun v H3 hn => p2 v H3 S2 hn
def rsF : Rs → Option PyData
  | .d x => some x
  | .c c => frzC c
def eX (f : DX) : DF := fun Γ => (f Γ).bind fun z => (R.ofO (rsF z.1)).bind fun d => .val (.d true d, z.2)
theorem ce_x (h : CX X W e f) : CE X W e (eX f) := fun Γ => pe_imp (h Γ) fun σ H Q ⟨G, S, q⟩ => ⟨G, S, (Pst.bind q).imp fun z G1 H1 e1 p1 => by
  obtain ⟨r, Γ1⟩ := z
  cases r with
  | d x =>
    intro v S1 hv
    exact p1 G1 H1 (Ext.rf S1.w) v S1 hv
  | c c =>
    intro v H2 S1 nc
    obtain ⟨d, hd, p1⟩ := Pst.ofO p1
    obtain ⟨G2, S2, e2, hv⟩ := NewC.frz S1 nc hd
    exact p1 G2 H2 e2 v S2 hv⟩
def rsS : Rs → Sl
  | .d x => .dat true x
  | .c c => .own c
def bSetX (i : Nat) (f : DX) : DS := fun Γ => (f Γ).bind fun z => .val (.nx, z.2.set i (rsS z.1))
theorem c1_setX (C : Cf0 X W sc N) (i : Nat) {x : Str} {p' : Pos} (hN : N[i]? = some x) (hv : Sto X sc x) (he : CX X W e f) (hs : swapsWith e (some (.Name x p')) pos.line X.env = pure false := by rfl) : C1 X W (.Assign [.Name x p'] e pos) (bSetX i f) := fun Γ => by
  have hx : Loc X.env.scope x := by rw [C.hsc]; exact hv.1
  refine ps_imp (ps_set (i := i) (by rw [C.hN]; exact C.nd) (by rw [C.hN]; exact hN) hx (he Γ) hs (by rw [C.hsc]; exact hv.2)) fun D σ H ⟨G, S, p⟩ => ⟨G, S, (Pst.bind p).imp fun z G1 H1 e1 p1 => ?_⟩
  obtain ⟨r, Γ1⟩ := z
  cases r with
  | d x =>
    intro v S1 hv
    exact p1 G1 H1 (Ext.rf S1.w) _ (S1.put i hv)
  | c c =>
    intro v H2 S1 nc
    obtain ⟨S2, e2⟩ := S1.putC i nc
    exact p1 G1 H2 e2 _ S2
def bRetX (f : DX) : DS := fun Γ => (f Γ).bind fun z => .val (.rt z.1, z.2)
def bExprX (f : DX) : DS := fun Γ => (f Γ).bind fun z => (R.ofO (rsF z.1)).bind fun _ => .val (.nx, z.2)
end
end PD
set_option Elab.async false
set_option linter.all false
set_option maxRecDepth 100000
set_option maxHeartbeats 4000000
set_option autoImplicit false
namespace PD
open PySem L2
section
variable {X : Cx} {W : WX} {sc : Scope} {N : List Str} {a b e : Expr} {es : List Expr} {pos p p2 : Pos} {f g : DF}
def cutX (x : AV × List Sl) (l h : Option Int × List Sl) : R (Rs × List Sl) := match lsA h.2 x.1 with
  | some ds => .val (.c (.lst (cutD ds l.1 h.1)), h.2)
  | none => match x.1 with
    | .d fr (.tuple ds) => gq (fr || flat.flatA ds) (.d (.tuple (cutD ds l.1 h.1)), h.2)
    | _ => .bad
def xCut (f : DF) (lo hi : DO) : DX := fun Γ => (f Γ).bind fun x => (lo x.2).bind fun l => (hi l.2).bind fun h => cutX x l h
theorem cx_cut {lo hi : Option Expr} {fl fh : DO} (ha : CE X W a f) (hl : CO X W lo fl) (hh : CO X W hi fh) : CX X W (.Subscript a (.Slice lo hi none p2) pos) (xCut f fl fh) := fun Γ =>
  pe_imp (pe_slice (sl_list.or sl_tupA) (ha Γ) (po_any fun x : AV × List Sl => hl x.2) (po_any fun x : Option Int × List Sl => hh x.2)) fun σ H Q ⟨G, S, q⟩ => ⟨G, S, (Pst.bind q).imp fun x G1 H1 e1 q1 v S1 hv => ⟨x, G1, S1, (Pst.bind q1).imp fun l G2 H2 e2 q2 S2 => ⟨l, G2, S2, (Pst.bind q2).imp fun h G3 H3 e3 q3 S3 => by
    have hv := hv.ext (e2.tr e3)
    unfold cutX at q3
    split at q3
    · rename_i ds hd
      obtain ⟨p, xs, rfl, g1, g2⟩ := lsA_ok hd S3 hv
      exact .inl ⟨p, xs, rfl, g1, fun r hr => q3 G3 H3 (Ext.rf S3.w) _ _ S3 (newc_lst hr (g2.cut _ _))⟩
    · split at q3
      · rename_i fr ds hx
        rw [hx] at hv
        obtain ⟨hc, q3⟩ := Pst.req q3
        obtain ⟨r, xs, rfl, g1, g2⟩ := dn_tupleH hv
        have g2 := g2.fresh hc
        refine .inr ⟨r, xs, rfl, SqT.of g1, fun hw => ?_, fun hw t ht => ?_⟩
        · refine q3 G3 H3 (Ext.rf S3.w) _ S3 ?_
          rw [g2.length] at hw
          show Dn X.K (rg G3 true) H3 _ (.tuple (cutD ds l.1 h.1))
          rw [cut_whole ds hw]
          exact .tup g1 g2
        · obtain ⟨G4, S4, e4, h4⟩ := S3.newTup ht (g2.cut l.1 h.1)
          exact q3 G4 _ e4 _ S4 h4
      · exact q3.elim⟩⟩⟩
theorem spU_law {K : PySem.W.Frag} {mg : Str → Option Value} {H : Hp} {a : Addr} {ns : List Int} {m : List Ar → R (Rs × List Sl)} (h : m [.d (.list (ns.map PyData.int))] = .val (.d (.bool true), [.un])) (hS : SqL K H a (ns.map V.int)) : spU K mg m [.ref a] H (fun v _ => v = .bl true) fun _ _ _ => False := by
  refine ⟨[.d (.list (ns.map PyData.int))], fun _ => [], [], fun _ => none, ?_, ?_⟩
  · refine argsD (ds := [.list (ns.map PyData.int)]) (.cons (.lst ((LsR.of_sq hS).mono fun _ _ z => ⟨z, by simp⟩) (ints_dna ns)) .nil) (fun a o h => by cases h)
  · rw [h]
    exact fun H' N F' _ v hv => dn_bool hv
end
end PD
set_option Elab.async false
set_option linter.all false
set_option maxRecDepth 100000
set_option maxHeartbeats 4000000
set_option autoImplicit false
namespace PD
open PySem PySem.Spec L2
open PyProof.Rows hiding St
section
variable {X : Cx} {W : WX} {sc : Scope} {N : List Str} {a b c e : Expr} {es : List Expr} {pos p p2 q2 : Pos} {f g h : DF}
def cLrg (i j : Int) : Bool := cRng i j && decide ((j - i).toNat ≤ 2 ^ 24)
def dLrng1 (f : DF) : DN := fun Γ => (f Γ).bind fun z => (R.ofO (intA z.1)).bind fun j => gq (cLrg 0 j) ((rng 0 j).map PyData.int, z.2)
def dLrng2 (f g : DF) : DN := fun Γ => (f Γ).bind fun z => (g z.2).bind fun y => (R.ofO (intA z.1)).bind fun i => (R.ofO (intA y.1)).bind fun j => gq (cLrg i j) ((rng i j).map PyData.int, y.2)
end
end PD
set_option Elab.async false
set_option linter.all false
set_option maxRecDepth 100000
set_option maxHeartbeats 4000000
set_option autoImplicit false
namespace PD
open PySem L2
def ItK (t : Bool) (h : Heap) (it l : Addr) (i : Nat) : Prop := match t with
  | true => h.IsTupleIter it l i
  | false => h.IsListIter it l i
def SqK (t : Bool) (h : Heap) (l : Addr) (xs : Array Value) : Prop := match t with
  | true => h.IsTuple l xs
  | false => h.IsList l xs
theorem ItK.e {t : Bool} {h h' : Heap} {it b l : Addr} {i : Nat} (x : ItK t h it l i) (hs : Heap.ExtBut b h h') (n : it ≠ b) : ItK t h' it l i := by
  cases t
  · exact Heap.IsListIter.extBut x hs n
  · exact Heap.IsTupleIter.extBut x hs n
theorem ItK.at {t : Bool} {h h' : Heap} {it l : Addr} {i : Nat} (x : ItK t h it l i) (k : ∀ o, h.get? it = some o → h'.get? it = some o) : ItK t h' it l i := by
  cases t
  · exact Heap.IsListIter.at x k
  · exact Heap.IsTupleIter.at x k
theorem ItK.ob {t : Bool} {h : Heap} {it l : Addr} {i : Nat} (x : ItK t h it l i) : ∃ o fs, h.get? it = some o ∧ o.data = .fields fs := by
  cases t
  · obtain ⟨o, h1, _, h2⟩ := x; exact ⟨o, _, h1, h2⟩
  · obtain ⟨o, h1, _, h2⟩ := x; exact ⟨o, _, h1, h2⟩
theorem SqK.e {t : Bool} {h h' : Heap} {l b : Addr} {xs : Array Value} (x : SqK t h l xs) (hs : Heap.ExtBut b h h') (n : l ≠ b) : SqK t h' l xs := by
  cases t
  · exact Heap.IsList.extBut x hs n
  · exact Heap.IsTuple.extBut x hs n
theorem SqK.p {t : Bool} {h : Heap} {l : Addr} {xs : Array Value} (x : SqK t h l xs) (o : Obj) : SqK t (h.push o) l xs := by
  cases t
  · exact Heap.IsList.push x o
  · exact Heap.IsTuple.push x o
section
variable {prog : Program} {w : World} {A : Around} {E : Value → Shared → Prop} {s : Shared}
variable {t1 t2 : Bool} {z TI TO i1 i2 l1 l2 : Addr} {k1 k2 : Nat} {xs ys : Array Value}
end
end PD
set_option Elab.async false
set_option linter.all false
set_option maxRecDepth 100000
set_option maxHeartbeats 4000000
set_option autoImplicit false
namespace PD
open PySem L2
section
variable {prog : Program} {w : World} {A : Around} {E : Value → Shared → Prop} {s : Shared} {t1 t2 : Bool}
variable {z TI TO i1 i2 l1 l2 : Addr} {k1 k2 : Nat} {xs ys : Array Value}
end
end PD
set_option Elab.async false
set_option linter.all false
set_option maxRecDepth 100000
set_option maxHeartbeats 4000000
set_option autoImplicit false
namespace PD
open PySem L2
section
variable {X : Cx} {W : WX} {sc : Scope} {N : List Str} {e e2 : Expr} {pos p : Pos} {f g : DF}
end
end PD
set_option Elab.async false
set_option linter.all false
set_option maxRecDepth 100000
set_option maxHeartbeats 4000000
set_option autoImplicit false
namespace PD
open PySem L2
end PD
set_option Elab.async false
set_option linter.all false
set_option maxRecDepth 100000
set_option maxHeartbeats 4000000
set_option autoImplicit false
namespace PD
open PySem L2
section
variable {X : Cx} {W : WX} {sc : Scope} {N : List Str} {e : Expr} {es : List Expr} {pos p : Pos} {x : Str} {dvs : List V} {dds : List PyData} {m : List Ar → R (Rs × List Sl)}
def nX (f : DX) : DC := fun Γ => (f Γ).bind fun z => (R.ofO (rsC z.1)).bind fun c => .val (c, z.2)
theorem cc_x {f : DX} (h : CX X W e f) : CC X W e (nX f) := fun Γ => pe_imp (h Γ) fun σ H Q ⟨G, S, q⟩ => ⟨G, S, (Pst.bind q).imp fun z G1 H1 e1 p1 => by
  obtain ⟨r, Γ1⟩ := z
  cases r with
  | d y => exact p1.elim
  | c c =>
    intro v H2 S1 nc
    exact p1 G1 H1 (Ext.rf S1.w) v H2 S1 nc⟩
end
end PD
set_option Elab.async false
set_option linter.all false
set_option maxRecDepth 100000
set_option maxHeartbeats 4000000
set_option autoImplicit false
namespace PD
open PySem L2
section
variable {X : Cx} {W : WX} {sc : Scope} {N : List Str} {e : Expr} {pos p1 : Pos} {x : Str}
end
end PD
set_option Elab.async false
set_option linter.all false
set_option maxRecDepth 100000
set_option maxHeartbeats 4000000
set_option autoImplicit false
namespace PD
open PySem L2
inductive ArsOk (K : PySem.W.Frag) (H : Hp) (R : Rg) (B : Hp) : List V → List Ar → Prop
  | nil : ArsOk K H R B [] []
  | d {v : V} {vs : List V} {x : PyData} {as : List Ar} : Dn K R H v x → ArsOk K H R B vs as → ArsOk K H R B (v :: vs) (.d x :: as)
  | n {v : V} {vs : List V} {x : PyData} {as : List Ar} : Dn K (RN B) H v x → ArsOk K H R B vs as → ArsOk K H R B (v :: vs) (.n x :: as)
section
variable {K : PySem.W.Frag} {H : Hp} {R : Rg} {B : Hp}
theorem ArsOk.length : ∀ {vs : List V} {as : List Ar}, ArsOk K H R B vs as → vs.length = as.length
  | _, _, .nil => rfl
  | _, _, .d _ r => by simp [r.length]
  | _, _, .n _ r => by simp [r.length]
theorem ArsOk.dat : ∀ {vs : List V} {as : List Ar} {i : Nat} {x : PyData}, ArsOk K H R B vs as → as[i]? = some (.d x) → ∃ v, vs[i]? = some v ∧ Dn K R H v x
  | _, _, _, _, .nil, e => by simp at e
  | _, _, 0, _, .d h _, e => by simp at e; subst e; exact ⟨_, rfl, h⟩
  | _, _, 0, _, .n h _, e => by simp at e
  | _, _, i + 1, x, .d _ r, e => by obtain ⟨v, h1, h2⟩ := r.dat (i := i) (x := x) (by simpa using e); exact ⟨v, by simpa using h1, h2⟩
  | _, _, i + 1, x, .n _ r, e => by obtain ⟨v, h1, h2⟩ := r.dat (i := i) (x := x) (by simpa using e); exact ⟨v, by simpa using h1, h2⟩
theorem ArsOk.nat : ∀ {vs : List V} {as : List Ar} {i : Nat} {x : PyData}, ArsOk K H R B vs as → as[i]? = some (.n x) → ∃ v, vs[i]? = some v ∧ Dn K (RN B) H v x
  | _, _, _, _, .nil, e => by simp at e
  | _, _, 0, _, .n h _, e => by simp at e; subst e; exact ⟨_, rfl, h⟩
  | _, _, 0, _, .d h _, e => by simp at e
  | _, _, i + 1, x, .d _ r, e => by obtain ⟨v, h1, h2⟩ := r.nat (i := i) (x := x) (by simpa using e); exact ⟨v, by simpa using h1, h2⟩
  | _, _, i + 1, x, .n _ r, e => by obtain ⟨v, h1, h2⟩ := r.nat (i := i) (x := x) (by simpa using e); exact ⟨v, by simpa using h1, h2⟩
theorem ArsOk.noc : ∀ {vs : List V} {as : List Ar} {i : Nat} {c : Cl}, ArsOk K H R B vs as → as[i]? ≠ some (.c c)
  | _, _, _, _, .nil, e => by simp at e
  | _, _, 0, _, .n h _, e => by simp at e
  | _, _, 0, _, .d h _, e => by simp at e
  | _, _, i + 1, x, .d _ r, e => r.noc (i := i) (c := x) (by simpa using e)
  | _, _, i + 1, x, .n _ r, e => r.noc (i := i) (c := x) (by simpa using e)
theorem ArsOk.app : ∀ {vs : List V} {as : List Ar} {ws : List V} {bs : List Ar}, ArsOk K H R B vs as → ArsOk K H R B ws bs → ArsOk K H R B (vs ++ ws) (as ++ bs)
  | _, _, _, _, .nil, b => b
  | _, _, _, _, .d h r, b => .d h (r.app b)
  | _, _, _, _, .n h r, b => .n h (r.app b)
theorem ArsOk.ofD : ∀ {vs : List V} {ds : List PyData}, DnA K R H vs ds → ArsOk K H R B vs (ds.map Ar.d)
  | _, _, .nil => .nil
  | _, _, .cons h r => .d h (ArsOk.ofD r)
theorem ArsOk.split : ∀ {v1 v2 : List V} {as : List Ar}, ArsOk K H R B (v1 ++ v2) as → ArsOk K H R B v1 (as.take v1.length) ∧ ArsOk K H R B v2 (as.drop v1.length)
  | [], v2, as, h => ⟨.nil, h⟩
  | v :: v1, v2, _, .d h r => by obtain ⟨q1, q2⟩ := ArsOk.split (v1 := v1) r; exact ⟨.d h q1, q2⟩
  | v :: v1, v2, _, .n h r => by obtain ⟨q1, q2⟩ := ArsOk.split (v1 := v1) r; exact ⟨.n h q1, q2⟩
theorem argsA {vs : List V} {as : List Ar} (h : ArsOk K H (fun a o => H a = some o ∧ a ∉ []) B vs as) (hB : ∀ a o, B a = some o → H a = some o) : ArgsU K H vs as (fun _ => []) [] B where
  len := h.length
  dat := fun i x hx => h.dat hx
  cel := fun i c hc => absurd hc h.noc
  emp := fun _ _ => rfl
  all := fun _ _ h => h
  al := fun p h => absurd h (by simp)
  dj := fun i j p h => absurd h (by simp)
  nat := fun i x hx => h.nat hx
  bok := fun a o h => ⟨hB a o h, by simp⟩
end
def rdAs (Γ : List Sl) (i : Option Nat) : List Bool → List AV → Option (List Ar)
  | _, [] => some []
  | true :: ms, .d fr x :: as => if fr || flat x then (rdAs Γ i ms as).map (.n x :: ·) else none
  | true :: _, .s _ :: _ => none
  | false :: ms, .d _ x :: as => (rdAs Γ i ms as).map (.d x :: ·)
  | false :: ms, .s j :: as => if some j = i then none else (rdW Γ j).bind fun x => (rdAs Γ i ms as).map (.d x :: ·)
  | [], .d _ x :: as => (rdAs Γ i [] as).map (.d x :: ·)
  | [], .s j :: as => if some j = i then none else (rdW Γ j).bind fun x => (rdAs Γ i [] as).map (.d x :: ·)
theorem rdAs_ok {K : PySem.W.Frag} {G : Gh} {H : Hp} {σ : St} {Γ : List Sl} {i : Option Nat} {fp : List Addr} (S : Sta K G H σ Γ) (hr : ∀ fr a o, rg G fr a o → a ∉ fp) (hs : ∀ (j : Nat) (x : PyData) (v : V), some j ≠ i → rdW Γ j = some x → σ[j]? = some (some v) → Dn K (fun a o => H a = some o ∧ a ∉ fp) H v x) :
    ∀ {ms : List Bool} {as : List AV} {ars : List Ar} {vs : List V}, rdAs Γ i ms as = some ars → AVs K G H σ vs as → ArsOk K H (fun a o => H a = some o ∧ a ∉ fp) G.N vs ars := by
  intro ms as
  have hd : ∀ {fr : Bool} {x : PyData} {v : V}, Dn K (rg G fr) H v x → Dn K (fun a o => H a = some o ∧ a ∉ fp) H v x := fun {fr x v} q => Dn.mono (fun b o z => ⟨S.w.rgl fr b o z, hr fr b o z⟩) (TupLe.rf _) q
  have hsl : ∀ {j : Nat} {x : PyData} {v : V}, ¬ some j = i → rdW Γ j = some x → σ[j]? = some (some v) → Dn K (fun a o => H a = some o ∧ a ∉ fp) H v x := fun {j x v} hj e1 q => hs j x v hj e1 q
  induction as generalizing ms with
  | nil =>
    intro ars vs h av
    cases av
    have : rdAs Γ i ms [] = some [] := by cases ms <;> rfl
    rw [this] at h
    cases h
    exact .nil
  | cons a as ih =>
    intro ars vs h av
    cases av with
    | cons q r =>
      have dd : ∀ (ms2 : List Bool) {fr : Bool} {x : PyData}, a = .d fr x → (rdAs Γ i ms2 as).map (.d x :: ·) = some ars → ArsOk K H (fun a o => H a = some o ∧ a ∉ fp) G.N (_ :: _) ars := fun ms2 {fr x} ha h2 => by
        subst ha
        cases e : rdAs Γ i ms2 as with
        | none => rw [e] at h2; cases h2
        | some xs => rw [e] at h2; cases h2; exact .d (hd q) (ih e r)
      have ss : ∀ (ms2 : List Bool) {j : Nat}, a = .s j → (if some j = i then none else (rdW Γ j).bind fun x => (rdAs Γ i ms2 as).map (.d x :: ·)) = some ars → ArsOk K H (fun a o => H a = some o ∧ a ∉ fp) G.N (_ :: _) ars := fun ms2 {j} ha h2 => by
        subst ha
        split at h2
        · cases h2
        · rename_i hj
          cases e1 : rdW Γ j with
          | none => rw [e1] at h2; cases h2
          | some x =>
            rw [e1] at h2
            have h2 : (rdAs Γ i ms2 as).map (.d x :: ·) = some ars := h2
            cases e : rdAs Γ i ms2 as with
            | none => rw [e] at h2; cases h2
            | some xs => rw [e] at h2; cases h2; exact .d (hsl hj e1 q) (ih e r)
      cases a with
      | d fr x =>
        cases ms with
        | nil => exact dd [] rfl h
        | cons b ms =>
          cases b with
          | false => exact dd ms rfl h
          | true =>
            unfold rdAs at h
            split at h
            · rename_i hc
              cases e : rdAs Γ i ms as with
              | none => rw [e] at h; cases h
              | some xs =>
                rw [e] at h
                cases h
                refine .n ?_ (ih e r)
                cases fr with
                | true => exact q
                | false => exact Dn.free q (by simpa using hc)
            · cases h
      | s j =>
        cases ms with
        | nil => exact ss [] rfl h
        | cons b ms =>
          cases b with
          | false => exact ss ms rfl h
          | true => cases h
section
variable {X : Cx} {W : WX} {sc : Scope} {N : List Str} {x : Str} {e : Expr} {es : List Expr} {p pos : Pos} {k : DA} {dvs : List V} {dds : List PyData} {m : List Ar → R (Rs × List Sl)}
theorem callM_core {Γ : List Sl} {G : Gh} {H : Hp} {σ : St} {as : List AV} {ars : List Ar} {ms : List Bool} {vs : List V} {Q : VK} (hdv : ∀ G H, DnA X.K G H dvs dds) (S : Sta X.K G H σ Γ) (av : AVs X.K G H σ vs as) (hd : rdAs Γ none ms as = some ars)
    (hp : Pst X W G H σ ((m (ars ++ dds.map Ar.d)).atX Γ) fun z G' H' => Sta X.K G' H' σ Γ → RsOk X.K G'.N H' Q z.1) : spU X.K X.mg m (vs ++ dvs) H Q (fun cls d H => W cls d σ H) := by
  have h1 : ArsOk X.K H (fun a o => H a = some o ∧ a ∉ []) G.N vs ars := rdAs_ok (i := none) (fp := []) S (fun _ _ _ _ => by simp) (fun _ _ _ _ hr hv => S.rdW hr hv) hd av
  refine ⟨_, _, _, G.N, argsA (h1.app (.ofD (hdv _ _))) (fun a o h => (S.w.new a o h).1), ?_⟩
  cases hm : m (ars ++ dds.map Ar.d) with
  | bad => rw [hm] at hp; exact hp
  | exc y =>
    rw [hm] at hp
    intro H' N' F' C d P g1 g2
    obtain ⟨G', S', e', l⟩ := call_end S (fun a o h => P.keep a o h (by simp)) P.new
    refine hp G' H' σ C d e' S' g1 ?_
    rcases g2 with ⟨a, fs, q1, q2, q3, q4⟩ | q
    · exact .inl ⟨a, fs, q1, l _ _ q2, q3, q4.mono l (TupLe.rf _)⟩
    · exact .inr q
  | val z =>
    rw [hm] at hp
    intro H' N' F' P
    obtain ⟨G', S', e', l⟩ := call_end S (fun a o h => P.keep a o h (by simp)) P.new
    have q := hp G' H' e' S'
    cases hz : z.1 with
    | d y => rw [hz] at q; exact fun v hv => q v (hv.mono l (TupLe.rf _))
    | c y => rw [hz] at q; exact fun v H2 ⟨fp, n1, n2, n3⟩ => q v H2 ⟨fp, n1, n2, Cl.mono n3 l (fun _ _ => rfl) (TupLe.rf _)⟩
def xCallM (m : List Ar → R (Rs × List Sl)) (ms : List Bool) (dds : List PyData) (k : DA) : DX := fun Γ => (k Γ).bind fun z => (R.ofO (rdAs z.2 none ms z.1)).bind fun ars => ((m (ars ++ dds.map Ar.d)).atX z.2).bind fun r => .val (r.1, z.2)
theorem cx_callM (C : Cf0 X W sc N) (ms : List Bool) (hc : Clee X x dvs (spU X.K X.mg m)) (hg : glB sc x = true) (hdv : ∀ G H, DnA X.K G H dvs dds) (ha : CA X W (e :: es) k)
    (hdb : (x == ("__debug__" : Str)) = false := by decide +kernel) (he : starEach (e :: es) X.env = (false, eval e X.env) :: starEach es X.env := by rfl) (hpl : (backTo pos (starEach es X.env)).any (·.1) = false := by rfl) : CX X W (.Call (.Name x p) (e :: es) [] pos) (xCallM m ms dds k) := fun Γ => by
  obtain ⟨k', f, fd, ps, dss, F, hr, hm, hk, hb, hd⟩ := hc
  refine pe_imp (pe_callSD (E := fun σ cls d H => W cls d σ H) F hr (C.gl hg) hm hk hb hd (fun σ => passAt C.tk σ) (ha Γ) hdb he hpl) fun σ H Q ⟨G, S, q⟩ => ⟨G, S, (Pst.bind q).imp fun z G1 H1 e1 p1 vs S1 av => ?_⟩
  obtain ⟨ars, hds, p1⟩ := Pst.ofO p1
  refine callM_core hdv S1 av hds ((Pst.bind p1).imp fun r G2 H2 e2 p2 S2 => ?_)
  cases hz : r.1 with
  | d w =>
    have p2 := p2 G2 H2 (Ext.rf S2.w)
    rw [hz] at p2
    exact fun v hv => p2 v S2 hv
  | c w =>
    have p2 := p2 G2 H2 (Ext.rf S2.w)
    rw [hz] at p2
    exact fun v H3 hn => p2 v H3 S2 hn
end
end PD
set_option Elab.async false
set_option linter.all false
set_option maxRecDepth 100000
set_option maxHeartbeats 4000000
set_option autoImplicit false
namespace PD
open PySem L2
section
variable {X : Cx} {W : WX} {sc : Scope} {N : List Str} {a b e : Expr} {pos : Pos} {f g : DF}
end
end PD
set_option Elab.async false
set_option linter.all false
set_option maxRecDepth 100000
set_option maxHeartbeats 4000000
set_option autoImplicit false
namespace PD
open PySem L2
section
variable {X : Cx} {W : WX} {sc : Scope} {N : List Str} {pos : Pos}
end
end PD
set_option Elab.async false
set_option linter.all false
set_option maxRecDepth 100000
set_option maxHeartbeats 4000000
set_option autoImplicit false
namespace PD
open PySem PySem.Spec L2
open PyProof.Rows (AllBare)
section
variable {X : Cx} {pins : List (Addr × Obj)} {σ : St} {H : Hp} {sI s' : Shared} {B : Heap}
end
section
variable {X : Cx} {x n : Str} {c : Value} {i : Nat} {body suite : List Stmt} {b0 : Stmt} {np pos pos2 : Pos} {tb : WX → TS} {ts : Addr → TS} {Wout : WX}
end
end PD
set_option Elab.async false
set_option linter.all false
set_option maxRecDepth 100000
set_option maxHeartbeats 4000000
set_option autoImplicit false
namespace PD
open PySem PySem.Spec L2
open PyProof.Rows (AllBare)
structure XF (K : PySem.W.Frag) (C : Addr) : Prop where
  cl : (PySem.W.clsIn K C).isSome = true
  ga : PySem.W.findIn K (.ref C) "__getattribute__" = some (some (.builtin "BaseException.__getattribute__"))
  gt : PySem.W.findIn K (.ref C) "__getattr__" = some none
  sb : PySem.W.subIn K (.ref C) (.type "BaseException") = some true
  hd : PySem.W.hasDictIn K C = true
  ca : PySem.W.findIn K (.ref C) "__class__" = some (some (.builtin "object.__class__"))
  gn : PySem.W.specialIn K (.builtin "object.__class__") "__get__" = some (some (.builtin "getset_descriptor.__get__"))
  tk : PySem.W.takesIn K (.builtin "object.__class__") = some true
  mo : PySem.W.mroIn K C (.type "object") = some true
  ty : PySem.W.typeIn K (.ref C) = some (.type "type")
section
variable {X : Cx} {pins : List (Addr × Obj)} {σ : St} {H : Hp} {s : Shared}
end
section
variable {X : Cx} {W : WX} {sc : Scope} {N : List Str} {xs ds hs fs : List Str} {e : Expr} {p p2 p3 pos : Pos} {f : DF}
inductive ClNs (X : Cx) (sc : Scope) (ds : List Str) : List Expr → List Str → Prop
  | nil : ClNs X sc ds [] []
  | cons {D : Str} {p : Pos} {es : List Expr} {Ds : List Str} : D ∈ ds → glB sc D = true → (D = "ValueError" → X.mg D = none) → (D == ("__debug__" : Str)) = false → starEach (.Name D p :: es) X.env = (false, eval (.Name D p) X.env) :: starEach es X.env → ClNs X sc ds es Ds → ClNs X sc ds (.Name D p :: es) (D :: Ds)
theorem ClNs.mem {es : List Expr} {Ds : List Str} (h : ClNs X sc ds es Ds) : ∀ d ∈ Ds, d ∈ ds := by
  induction h with
  | nil => intro d hd; cases hd
  | cons h1 _ _ _ _ _ ih =>
    intro d hd
    rcases List.mem_cons.mp hd with z | z
    · rw [z]; exact h1
    · exact ih d z
end
end PD
set_option Elab.async false
set_option linter.all false
set_option maxRecDepth 100000
set_option maxHeartbeats 4000000
set_option autoImplicit false
namespace PD
open PySem PySem.Spec L2
open PyProof.Rows (AllBare)
section
variable {X : Cx} {W : WX} {sc : Scope} {N : List Str} {xs ds hs fs : List Str} {b s : DS} {body suite : List Stmt} {b0 : Stmt} {np pos pos2 : Pos}
theorem XdOk.mono {K : PySem.W.Frag} {G G' : Rg} {H H' : Hp} {d : Option Addr} {flds : List (Str × PyData)} (h : XdOk K G H d flds) (g : RgLe G G') (t : TupLe H H') : XdOk K G' H' d flds := by
  rcases h with ⟨dd, fl, rfl, g2, e1, e2⟩ | ⟨rfl, rfl⟩
  · exact .inl ⟨dd, fl, rfl, g _ _ g2, e1, e2.mono g t⟩
  · exact .inr ⟨rfl, rfl⟩
end
section
variable {X : Cx} {W : WX} {sc : Scope} {N : List Str} {xs ds hs fs fns : List Str} {c : Str} {e : Expr} {es : List Expr} {k : DA} {p pos pos2 : Pos}
end
end PD
set_option Elab.async false
set_option linter.all false
set_option maxRecDepth 100000
set_option maxHeartbeats 4000000
set_option autoImplicit false
namespace PD
open PySem PySem.Spec L2
structure HuntC (K : PySem.W.Frag) (C : Addr) : Prop where
  rd : PySem.W.readsIn K C (.type "type") = true
  ga : PySem.W.specialIn K (.ref C) "__getattribute__" = some (some (.builtin "type.__getattribute__"))
  ini : PySem.W.findCls K (.ref C) (.type "type") "__init__" = some (.val (.builtin "ValueError.__init__"))
section
variable {X : Cx} {e : Expr} {es : List Expr} {ta : TA} {p1 p2 pos : Pos}
end
section
variable {P : Program} {w : World} {K : PySem.W.Frag} {mg : Str → Option Value} {base : Heap} {qual : Str} {params : Arguments} {body : List Stmt} {scope : Scope} {fI : Addr} {fd : FuncData} {CH : Addr}
end
section
variable {X : Cx} {W : WX} {sc : Scope} {N : List Str}
end
end PD
set_option Elab.async false
set_option linter.all false
set_option maxRecDepth 100000
set_option maxHeartbeats 4000000
set_option autoImplicit false
namespace PD
open PySem PySem.Spec PyProof.Rows L2
open L2H (RoomH)
structure FnQ (P : Program) (w : World) (K : PySem.W.Frag) (mg : Str → Option Value) (base : Heap) (k : Nat) (f : Addr) (fd : FuncData) (ps : List Str) (sp : Sp) : Prop where
  len : ∀ vs H Q E, sp vs H Q E → vs.length = ps.length
  run : ∀ (A : Around) (outer : List Env) (s : Shared) (H : Hp) (args : Args) (us : List Value) (vs : List V) (Q : VK) (E : XK), RoomH k A → Env0 P w K mg base A outer s H → BindsTo s fd args (ps.zip us) → Vals vs us → sp vs H Q E →
    codeAny (model P w) A (.call (.ref f) args) (CR (L2.CX P w) outer P w H s Q E) s
section
variable {P : Program} {w : World} {K : PySem.W.Frag} {mg : Str → Option Value} {base : Heap} {N ps : List Str} {qual : Str} {scope : Scope} {f : Addr} {cd : Value} {A : Around} {outer : List Env} {s s1 : Shared} {H : Hp} {E : XK} {us : List Value} {vs : List V}
end
structure HereQ (X : Cx) (W : WX) (P : Program) (w : World) (K : PySem.W.Frag) (mg : Str → Option Value) (base : Heap) (scope : Scope) (N : List Str) (k : Nat) : Prop where
  cf : Cf0 X W scope N
  prog : X.prog = P
  w : X.w = w
  K : X.K = K
  mg : X.mg = mg
  base : X.base = base
  room : RoomH k X.A
  fn : ∀ x, X.fn x = true
section
variable {P : Program} {w : World} {K : PySem.W.Frag} {mg : Str → Option Value} {base : Heap} {N ps : List Str} {name qual : Str} {scope : Scope} {f : Addr} {k : Nat} {params : Arguments} {body : List Stmt} {dvs : List V} {kws : List (Str × V)} {fd : FuncData}
end
def CleeQ (X : Cx) (x : Str) (dvs : List V) (sp : Sp) : Prop :=
  ∃ (k : Nat) (f : Addr) (fd : FuncData) (ps : List Str) (ds : List Value), FnQ X.prog X.w X.K X.mg X.base k f fd ps sp ∧ RoomH k X.A ∧ X.mg x = some (.ref f) ∧ PySem.W.keepIn X.K (.ref f) = true ∧ Binds X.K fd ps ds ∧ Vals dvs ds
section
variable {X : Cx} {W : WX} {sc : Scope} {N : List Str} {x : Str} {e : Expr} {es : List Expr} {p pos : Pos} {k : DA} {dvs : List V} {dds : List PyData} {m : List Ar → R (Rs × List Sl)} {t : TA}
theorem CleeQ.suite {sp : Sp} (h : CleeQ X x dvs sp) (a : Addr) (pn : List (Addr × Obj)) : CleeQ (X.suite a pn) x dvs sp := by
  obtain ⟨k, f, fd, ps, ds, h1, h2, h3⟩ := h
  exact ⟨k, f, fd, ps, ds, h1, ⟨h2.dp, h2.un⟩, h3⟩
end
def GvQ (P : Program) (w : World) (K : PySem.W.Frag) (mg : Str → Option Value) (base : Heap) (k : Nat) (x : Str) (dvs : List V) (sp : Sp) : Prop :=
  ∃ (f : Addr) (fd : FuncData) (ps : List Str) (ds : List Value), FnQ P w K mg base k f fd ps sp ∧ mg x = some (.ref f) ∧ PySem.W.keepIn K (.ref f) = true ∧ Binds K fd ps ds ∧ Vals dvs ds
theorem GvQ.u {P : Program} {w : World} {K : PySem.W.Frag} {mg : Str → Option Value} {base : Heap} {k k' : Nat} {x : Str} {dvs : List V} {m : List Ar → R (Rs × List Sl)} {scope : Scope} {X : Cx} {W : WX} {N : List Str} (g : GvQ P w K mg base k x dvs (spU K mg m)) (h : Here X W P w K mg base scope N k') (hk : k ≤ k') : CleeQ X x dvs (spU X.K X.mg m) := by
  obtain ⟨f, fd, ps, ds, h1, h2, h3, h4, h5⟩ := g
  have e1 := h.prog
  have e2 := h.w
  have e3 := h.K
  have e4 := h.mg
  have e5 := h.base
  subst e1 e2 e3 e4 e5
  exact ⟨k, f, fd, ps, ds, h1, (L2H.roomH_of h.room).mono hk, h2, h3, h4, h5⟩
end PD
set_option Elab.async false
set_option linter.all false
set_option maxRecDepth 100000
set_option maxHeartbeats 4000000
set_option autoImplicit false
namespace PD
open PySem PySem.Spec L2
theorem Clee.tr {X : Cx} {x : Str} {dvs : List V} {sp : Sp} (h : Clee X x dvs sp) {pn : List (Addr × Obj)} {xe : Value → Shared → Prop} : Clee (X.tr pn xe) x dvs sp := h
theorem CleeK.tr {X : Cx} {x : Str} {n : Nat} {ks : List Str} {dvs : List V} {sp : Sp} (h : CleeK X x n ks dvs sp) {pn : List (Addr × Obj)} {xe : Value → Shared → Prop} : CleeK (X.tr pn xe) x n ks dvs sp := h
structure IniC (K : PySem.W.Frag) (c : Str) : Prop where
  T : OexC K (He.ga K c)
  iC : PySem.W.findIn K (.ref (He.ga K c)) "__init__" = some (some (.ref (He.fAd K (c, some "__init__"))))
  tI : PySem.W.typeIn K (.ref (He.fAd K (c, some "__init__"))) = some (.type "function")
section
variable {P : Program} {w : World} {K : PySem.W.Frag} {mg : Str → Option Value} {base : Heap} {X : Cx} {W : WX} {scope : Scope} {N : List Str} {k : Nat} {xs ds hs fs : List Str} {c f f2 qual : Str} {params : Arguments} {body : List Stmt} {sc : Scope} {fd : FuncData}
end
def obsX (fx : List (PySem.W.Frag → Bool)) (fa : List He.Fa) (fn : List He.DefD) (K : PySem.W.Frag) : He.AlD := ((fx.all fun f => f K) && (He.obsD fa fn K).1, (He.obsD fa fn K).2)
def SaysX (fx : List (PySem.W.Frag → Bool)) (fa : List He.Fa) (fn : List He.DefD) (K : PySem.W.Frag) : Prop := obsX fx fa fn K = He.valD fn
theorem SaysX.d {fx : List (PySem.W.Frag → Bool)} {fa : List He.Fa} {fn : List He.DefD} {K : PySem.W.Frag} (c : SaysX fx fa fn K) : He.SaysD fa fn K := by
  have c : ((fx.all fun f => f K) && (He.obsD fa fn K).1, (He.obsD fa fn K).2) = He.valD fn := c
  have e1 : ((fx.all fun f => f K) && (He.obsD fa fn K).1) = true := congrArg (fun z : He.AlD => z.1) c
  have e2 : (He.obsD fa fn K).2 = (He.valD fn).2 := (Prod.mk.inj (c.trans (show He.valD fn = ((He.valD fn).1, (He.valD fn).2) from rfl))).2
  exact Prod.ext (Bool.and_eq_true_iff.mp e1).2 e2
theorem SaysX.x {fx : List (PySem.W.Frag → Bool)} {fa : List He.Fa} {fn : List He.DefD} {K : PySem.W.Frag} (c : SaysX fx fa fn K) (i : Nat) {f : PySem.W.Frag → Bool} (h : fx[i]? = some f := by rfl) : f K = true := by
  have c : ((fx.all fun f => f K) && (He.obsD fa fn K).1, (He.obsD fa fn K).2) = He.valD fn := c
  have e1 : ((fx.all fun f => f K) && (He.obsD fa fn K).1) = true := congrArg (fun z : He.AlD => z.1) c
  exact List.all_eq_true.mp (Bool.and_eq_true_iff.mp e1).1 f (List.mem_of_getElem? h)
end PD
set_option Elab.async false
set_option linter.all false
set_option maxRecDepth 100000
set_option maxHeartbeats 4000000
set_option autoImplicit false
namespace PD
open PySem PySem.Spec L2
open PyProof.Rows hiding St
section
variable {X : Cx} {W : WX} {sc : Scope} {N : List Str} {a b e o : Expr} {p p2 pos apos cpos : Pos} {f g h : DF}
end
end PD
set_option Elab.async false
set_option linter.all false
set_option maxRecDepth 100000
set_option maxHeartbeats 4000000
set_option autoImplicit false
namespace PD
open PySem PySem.Spec L2
open PyProof.Rows hiding St
section
variable {X : Cx} {W : WX} {sc : Scope} {N : List Str} {e : Expr} {p pos : Pos} {f : DF} {x : Str} {vs : List V} {ds : List PyData}
end
end PD
set_option Elab.async false
set_option linter.all false
set_option maxRecDepth 100000
set_option maxHeartbeats 4000000
set_option autoImplicit false
namespace PD
open PySem PySem.Spec L2
open PyProof.Rows hiding St
section
variable {X : Cx} {W : WX} {sc : Scope} {N : List Str} {e tg : Expr} {apos cpos p : Pos} {f : DF}
end
end PD
set_option Elab.async false
set_option linter.all false
set_option maxRecDepth 100000
set_option maxHeartbeats 4000000
set_option autoImplicit false
namespace PD
open PySem PySem.Spec L2
open PyProof.Rows hiding St
section
variable {X : Cx} {W : WX} {sc : Scope} {N : List Str} {a b : Expr} {pos : Pos} {f g : DF}
end
end PD
set_option Elab.async false
set_option linter.all false
set_option maxRecDepth 100000
set_option maxHeartbeats 4000000
set_option autoImplicit false
namespace PD
open PySem L2
def pickP {α : Type} (pm : List Nat) (xs : List α) : List α := pm.filterMap fun i => xs[i]?
theorem Vals.pickP {xs : List V} {us : List Value} (h : Vals xs us) (pm : List Nat) : Vals (pickP pm xs) (pickP pm us) := by
  induction pm with
  | nil => exact .nil
  | cons i r ih =>
    unfold PD.pickP at ih ⊢
    rw [List.filterMap_cons, List.filterMap_cons]
    cases hx : xs[i]? with
    | none =>
      have : us[i]? = none := by
        rw [List.getElem?_eq_none_iff] at hx ⊢
        rw [← h.length]; exact hx
      rw [this]
      exact ih
    | some x =>
      obtain ⟨u, hu, r⟩ := h.get hx
      rw [hu]
      exact .cons r ih
section
variable {X : Cx} {W : WX} {sc : Scope} {N : List Str} {a b c e : Expr} {es : List Expr} {pos p : Pos} {Γ : List Sl}
theorem AVs.get {K : PySem.W.Frag} {G : Gh} {H : Hp} {σ : St} : ∀ {vs : List V} {as : List AV}, AVs K G H σ vs as → ∀ i : Nat, (vs[i]? = none ∧ as[i]? = none) ∨ ∃ v a, vs[i]? = some v ∧ as[i]? = some a ∧ AVok K G H σ v a
  | _, _, .nil, i => .inl ⟨by simp, by simp⟩
  | _, _, .cons h t, 0 => .inr ⟨_, _, by simp, by simp, h⟩
  | _, _, .cons h t, i + 1 => by simpa using AVs.get t i
theorem AVs.pickP {K : PySem.W.Frag} {G : Gh} {H : Hp} {σ : St} {vs : List V} {as : List AV} (h : AVs K G H σ vs as) (pm : List Nat) : AVs K G H σ (pickP pm vs) (pickP pm as) := by
  induction pm with
  | nil => exact .nil
  | cons i r ih =>
    unfold PD.pickP at ih ⊢
    rw [List.filterMap_cons, List.filterMap_cons]
    rcases h.get i with ⟨e1, e2⟩ | ⟨v, a, e1, e2, hv⟩
    · rw [e1, e2]; exact ih
    · rw [e1, e2]; exact .cons hv ih
def GvP (P : Program) (w : World) (K : PySem.W.Frag) (mg : Str → Option Value) (base : Heap) (k : Nat) (x : Str) (n : Nat) (ks : List Str) (pm : List Nat) (dvs : List V) (sp : Sp) : Prop :=
  ∃ (f : Addr) (fd : FuncData) (ps : List Str) (its : List Value), FnOk P w K mg base (L2.CX P w) k f fd ps sp ∧ mg x = some (.ref f) ∧ PySem.W.keepIn K (.ref f) = true ∧ KBn K fd ps n ks (fun us ws => pickP pm (us ++ ws ++ its)) (fun vs zs => pickP pm (vs ++ zs ++ dvs))
def CleeP (X : Cx) (x : Str) (n : Nat) (ks : List Str) (pm : List Nat) (dvs : List V) (sp : Sp) : Prop :=
  ∃ (k : Nat) (f : Addr) (fd : FuncData) (ps : List Str) (its : List Value), FnOk X.prog X.w X.K X.mg X.base (L2.CX X.prog X.w) k f fd ps sp ∧ Room k X.A ∧ X.mg x = some (.ref f) ∧ PySem.W.keepIn X.K (.ref f) = true ∧ KBn X.K fd ps n ks (fun us ws => pickP pm (us ++ ws ++ its)) (fun vs zs => pickP pm (vs ++ zs ++ dvs))
theorem GvP.clee {P : Program} {w : World} {K : PySem.W.Frag} {mg : Str → Option Value} {base : Heap} {k k' : Nat} {x : Str} {n : Nat} {ks : List Str} {pm : List Nat} {dvs : List V} {sp : Sp} {scope : Scope} (g : GvP P w K mg base k x n ks pm dvs sp) (h : Here X W P w K mg base scope N k') (hk : k ≤ k') : CleeP X x n ks pm dvs sp := by
  obtain ⟨f, fd, ps, its, g1, g2, g3, g4⟩ := g
  refine ⟨k, f, fd, ps, its, ?_, h.room.mono hk, ?_, ?_, ?_⟩
  · rw [h.prog, h.w, h.K, h.mg, h.base]; exact g1
  · rw [h.mg]; exact g2
  · rw [h.K]; exact g3
  · rw [h.K]; exact g4
theorem CleeP.blk {x : Str} {n : Nat} {ks : List Str} {pm : List Nat} {dvs : List V} {sp : Sp} (h : CleeP X x n ks pm dvs sp) {s : Shared} {H : Hp} {scope : Scope} {ce : Env} {fp : List Addr} : CleeP (X.blk s H scope ce fp) x n ks pm dvs sp := h
theorem GvP.u {P : Program} {w : World} {K : PySem.W.Frag} {mg : Str → Option Value} {base : Heap} {k k' : Nat} {x : Str} {n : Nat} {ks : List Str} {pm : List Nat} {dvs : List V} {m : List Ar → R (Rs × List Sl)} {scope : Scope} (g : GvP P w K mg base k x n ks pm dvs (spU K mg m)) (h : Here X W P w K mg base scope N k') (hk : k ≤ k') : CleeP X x n ks pm dvs (spU X.K X.mg m) := by
  have := g.clee h hk
  rw [h.K, h.mg]
  exact this
end
section
variable {X : Cx} {W : WX} {sc : Scope} {N : List Str} {a b c e : Expr} {es : List Expr} {pos p : Pos} {f : DF} {x : Str} {dvs : List V} {dds : List PyData} {m : List Ar → R (Rs × List Sl)} {kws : List Keyword} {ks : List Str} {n : Nat} {pm : List Nat} {k kk : DA}
end
end PD
set_option Elab.async false
set_option linter.all false
set_option maxRecDepth 100000
set_option maxHeartbeats 4000000
set_option autoImplicit false
namespace PD
open PySem PySem.Spec L2 Srt SrtO
open PyProof.Rows hiding St
section
variable {prog : Program} {w : World} {A : Around} {E : Value → Shared → Prop} {s : Shared} {l : Addr} {vs : List Value}
end
section
variable {X : Cx} {W : WX} {sc : Scope} {N : List Str} {a e : Expr} {p pos : Pos} {k : DA}
end
end PD
set_option Elab.async false
set_option linter.all false
set_option maxRecDepth 100000
set_option maxHeartbeats 4000000
set_option autoImplicit false
namespace PD
open PySem PySem.Spec L2
open PyProof.Rows hiding St
mutual
def eqN : PyData → PyData → Bool
  | .none, .none => true
  | .bool a, .bool b => a == b
  | .int a, .int b => decide (a = b)
  | .tuple a, .tuple b => eqNs a b
  | _, _ => false
def eqNs : List PyData → List PyData → Bool
  | [], [] => true
  | a :: as, b :: bs => eqN a b && eqNs as bs
  | _, _ => false
end
inductive NdRel (K : PySem.W.Frag) (G : Rg) (H : Hp) : List (NestedKey × Addr × V) → List (PyData × PyData) → Prop
  | nil : NdRel K G H [] []
  | cons {r : NestedKey × Addr × V} {rs : List (NestedKey × Addr × V)} {k v : PyData} {l : List (PyData × PyData)} : nkD k = some r.1 → r.1.depth ≤ 8 → Dn K G H (.ref r.2.1) k → Dn K G H r.2.2 v → NdRel K G H rs l → NdRel K G H (r :: rs) ((k, v) :: l)
theorem NdRel.mono {K : PySem.W.Frag} {G G' : Rg} {H H' : Hp} (g : RgLe G G') (t : TupLe H H') {rs : List (NestedKey × Addr × V)} {l : List (PyData × PyData)} (h : NdRel K G H rs l) : NdRel K G' H' rs l := by
  induction h with
  | nil => exact .nil
  | cons h1 h2 h3 h4 _ ih => exact .cons h1 h2 (h3.mono g t) (h4.mono g t) ih
theorem NdRel.len {K : PySem.W.Frag} {G : Rg} {H : Hp} {rs : List (NestedKey × Addr × V)} {l : List (PyData × PyData)} (n : NdRel K G H rs l) : rs.length = l.length := by
  induction n with
  | nil => rfl
  | cons _ _ _ _ _ ih => rw [List.length_cons, List.length_cons, ih]
def getN (l : List (PyData × PyData)) (k : PyData) : Option PyData := (l.find? fun z => decide (nkD z.1 = nkD k)).map (·.2)
def putN (l : List (PyData × PyData)) (k v : PyData) : List (PyData × PyData) := if l.any (fun z => decide (nkD z.1 = nkD k)) then l.map (fun z => if nkD z.1 = nkD k then (z.1, v) else z) else l ++ [(k, v)]
theorem NdRel.get {K : PySem.W.Frag} {G : Rg} {H : Hp} {k : PyData} {kk : NestedKey} (hk : nkD k = some kk) {rs : List (NestedKey × Addr × V)} {l : List (PyData × PyData)} (n : NdRel K G H rs l) : (ndGet rs kk = none ∧ getN l k = none) ∨ ∃ v d, ndGet rs kk = some v ∧ getN l k = some d ∧ Dn K G H v d := by
  induction n with
  | nil => exact .inl ⟨rfl, rfl⟩
  | @cons r rs k0 v0 l h1 h2 h3 h4 _ ih =>
    by_cases e : r.1 = kk
    · have e2 : nkD k0 = nkD k := by rw [h1, hk, e]
      exact .inr ⟨r.2.2, v0, by simp [ndGet, e], by simp [getN, e2], h4⟩
    · have e2 : ¬ nkD k0 = nkD k := by rw [h1, hk]; simpa using e
      have g1 : ndGet (r :: rs) kk = ndGet rs kk := by simp [ndGet, List.find?_cons, e]
      have g2 : getN ((k0, v0) :: l) k = getN l k := by simp [getN, List.find?_cons, e2]
      rw [g1, g2]; exact ih
theorem NdRel.any {K : PySem.W.Frag} {G : Rg} {H : Hp} {k : PyData} {kk : NestedKey} (hk : nkD k = some kk) {rs : List (NestedKey × Addr × V)} {l : List (PyData × PyData)} (n : NdRel K G H rs l) : rs.any (fun r => decide (r.1 = kk)) = l.any (fun z => decide (nkD z.1 = nkD k)) := by
  induction n with
  | nil => rfl
  | @cons r rs k0 v0 l h1 h2 h3 h4 _ ih =>
    rw [List.any_cons, List.any_cons, ih]
    congr 1
    rw [decide_eq_decide, h1, hk]
    simp
theorem NdRel.put1 {K : PySem.W.Frag} {G : Rg} {H : Hp} {k v : PyData} {kk : NestedKey} {y : V} (hk : nkD k = some kk) (hv : Dn K G H y v) {rs : List (NestedKey × Addr × V)} {l : List (PyData × PyData)} (n : NdRel K G H rs l) : NdRel K G H (rs.map (fun r => if r.1 = kk then (r.1, r.2.1, y) else r)) (l.map (fun z => if nkD z.1 = nkD k then (z.1, v) else z)) := by
  induction n with
  | nil => exact .nil
  | @cons r rs k0 v0 l h1 h2 h3 h4 _ ih =>
    rw [List.map_cons, List.map_cons]
    by_cases e : r.1 = kk
    · have e2 : nkD k0 = nkD k := by rw [h1, hk, e]
      rw [if_pos e, if_pos e2]
      exact .cons h1 h2 h3 hv ih
    · have e2 : ¬ nkD k0 = nkD k := by rw [h1, hk]; simpa using e
      rw [if_neg e, if_neg e2]
      exact .cons h1 h2 h3 h4 ih
theorem NdRel.put2 {K : PySem.W.Frag} {G : Rg} {H : Hp} {k v : PyData} {kk : NestedKey} {b : Addr} {y : V} (hk : nkD k = some kk) (hd : kk.depth ≤ 8) (hb : Dn K G H (.ref b) k) (hv : Dn K G H y v) {rs : List (NestedKey × Addr × V)} {l : List (PyData × PyData)} (n : NdRel K G H rs l) : NdRel K G H (rs ++ [(kk, b, y)]) (l ++ [(k, v)]) := by
  induction n with
  | nil => exact .cons hk hd hb hv .nil
  | cons h1 h2 h3 h4 _ ih => exact .cons h1 h2 h3 h4 ih
theorem NdRel.put {K : PySem.W.Frag} {G : Rg} {H : Hp} {k v : PyData} {kk : NestedKey} {b : Addr} {y : V} (hk : nkD k = some kk) (hd : kk.depth ≤ 8) (hb : Dn K G H (.ref b) k) (hv : Dn K G H y v) {rs : List (NestedKey × Addr × V)} {l : List (PyData × PyData)} (n : NdRel K G H rs l) : NdRel K G H (ndPut rs kk b y) (putN l k v) := by
  unfold ndPut putN
  rw [n.any hk]
  split
  · exact n.put1 hk hv
  · exact n.put2 hk hd hb hv
def nkOk (k : PyData) : Bool := match k with
  | .tuple _ => match nkD k with
    | some kk => decide (kk.depth ≤ 8)
    | none => false
  | _ => false
section
variable {X : Cx} {W : WX} {sc : Scope} {N : List Str} {a b c e : Expr} {pos : Pos} {f g : DF}
end
end PD
set_option Elab.async false
set_option linter.all false
set_option maxRecDepth 100000
set_option maxHeartbeats 4000000
set_option autoImplicit false
namespace PD
open PySem PySem.Spec L2
open PyProof.Rows hiding St
theorem NdRel.at {K : PySem.W.Frag} {G : Rg} {H : Hp} {rs : List (NestedKey × Addr × V)} {l : List (PyData × PyData)} (n : NdRel K G H rs l) : ∀ {i : Nat} {r : NestedKey × Addr × V}, rs[i]? = some r → ∃ z, l[i]? = some z ∧ Dn K G H (.ref r.2.1) z.1 := by
  induction n with
  | nil => intro i r h; simp at h
  | @cons r0 rs k v l h1 h2 h3 h4 _ ih =>
    intro i r h
    cases i with
    | zero =>
      have : r0 = r := by simpa using h
      subst this
      exact ⟨(k, v), rfl, h3⟩
    | succ j => exact ih (by simpa using h)
section
variable {X : Cx} {W : WX} {sc : Scope} {N : List Str} {e tg : Expr} {f : DF}
end
end PD
set_option Elab.async false
set_option linter.all false
set_option maxRecDepth 100000
set_option maxHeartbeats 4000000
set_option autoImplicit false
namespace PD
open PySem PySem.Spec L2 Srt SrtO
open PySem.W (alike AllAlike Sortable dataLe EachIs)
open PyProof.Rows hiding St
section
variable {X : Cx} {pins : List (Addr × Obj)} {σ : St} {H : Hp} {s : Shared}
end
section
variable {X : Cx} {W : WX} {sc : Scope} {N : List Str} {a e : Expr} {p pos : Pos} {k : DA}
theorem NdRel.refs {K : PySem.W.Frag} {G : Rg} {H : Hp} {rs : List (NestedKey × Addr × V)} {l : List (PyData × PyData)} (n : NdRel K G H rs l) : DnA K G H (rs.map fun r => .ref r.2.1) (l.map (·.1)) := by
  induction n with
  | nil => exact .nil
  | cons _ _ h3 _ _ ih => exact .cons h3 ih
end
end PD
set_option Elab.async false
set_option linter.all false
set_option maxRecDepth 100000
set_option maxHeartbeats 4000000
set_option autoImplicit false
namespace PD
open PySem PySem.Spec L2
open PyProof.Rows hiding St
section
variable {X : Cx} {W : WX} {sc : Scope} {N : List Str} {e : Expr} {f : DX}
end
end PD
set_option Elab.async false
set_option linter.all false
set_option maxRecDepth 100000
set_option maxHeartbeats 4000000
set_option autoImplicit false
namespace PD
open PySem PySem.Spec L2
open PyProof.Rows hiding St
section
variable {X : Cx} {W : WX} {sc : Scope} {N : List Str} {a b : Expr} {pos : Pos} {f g : DF}
end
end PD
set_option Elab.async false
set_option linter.all false
set_option maxRecDepth 100000
set_option maxHeartbeats 4000000
set_option autoImplicit false
namespace PD
open PySem L2
section
variable {X : Cx} {W : WX} {sc : Scope} {N : List Str} {s : Stmt} {ss : List Stmt} {b : DS}
def lentL (Γ : List Sl) (i : Nat) : Option (List PyData) := match Γ[i]? with
  | some (.lent (.lst ds)) => some ds
  | _ => none
variable {tg : Expr} {x : Str} {p p2 pos : Pos}
end
end PD
set_option Elab.async false
set_option linter.all false
set_option maxRecDepth 100000
set_option maxHeartbeats 4000000
set_option autoImplicit false
namespace PD
open PySem L2
section
variable {X : Cx} {pins : List (Addr × Obj)} {σ : St} {H : Hp} {s : Shared} {a b : Addr} {u r : Value} {d : V} {k : List Key} {A : Around} {E : Value → Shared → Prop}
end
inductive LsOk (K : PySem.W.Frag) (G : Rg) (H : Hp) : List Addr → List (List PyData) → Prop
  | nil : LsOk K G H [] []
  | cons {q : Addr} {qs : List Addr} {xs : List V} {ds : List PyData} {l : List (List PyData)} : H q = some (.lst xs) → DnA K G H xs ds → LsOk K G H qs l → LsOk K G H (q :: qs) (ds :: l)
theorem LsOk.mono {K : PySem.W.Frag} {G G' : Rg} {H H' : Hp} (g : RgLe G G') (t : TupLe H H') {qs : List Addr} {l : List (List PyData)} (h : LsOk K G H qs l) : (∀ q ∈ qs, H' q = H q) → LsOk K G' H' qs l := by
  induction h with
  | nil => exact fun _ => .nil
  | cons a b _ ih => exact fun k => .cons (by rw [k _ List.mem_cons_self]; exact a) (b.mono g t) (ih fun q hq => k q (List.mem_cons_of_mem _ hq))
theorem leaves_inv {K : PySem.W.Frag} {G : Rg} {H : Hp} : ∀ {ds : List PyData} {vs : List V} {fp : List Addr}, TresOk K G H vs fp (ds.map Tre.d) → fp = [] ∧ DnA K G H vs ds
  | [], _, _, .nil => ⟨rfl, .nil⟩
  | d :: ds, _, _, .cons h t _ => by
    obtain ⟨rfl, h2⟩ := leaves_inv t
    cases h with
    | d h1 => exact ⟨rfl, .cons h1 h2⟩
theorem lists_inv {K : PySem.W.Frag} {G : Rg} {H : Hp} : ∀ {l : List (List PyData)} {vs : List V} {fp : List Addr}, TresOk K G H vs fp (l.map fun ds => .lst (ds.map Tre.d)) → vs = fp.map V.ref ∧ fp.Nodup ∧ LsOk K G H fp l
  | [], _, _, .nil => ⟨rfl, List.nodup_nil, .nil⟩
  | ds :: l, _, _, .cons (f1 := f1) (f2 := f2) h t n => by
    obtain ⟨e1, e2, e3⟩ := lists_inv t
    cases h with
    | lst h1 h2 h3 =>
      obtain ⟨rfl, h4⟩ := leaves_inv h2
      refine ⟨by rw [e1]; rfl, ?_, .cons h1 h4 e3⟩
      exact List.nodup_cons.mpr ⟨n _ (by simp), e2⟩
theorem mulT_map (l : List (PyData × List PyData)) : (l.map fun z => Tre.lst (z.2.map Tre.d)) = (l.map (·.2)).map fun ds => Tre.lst (ds.map Tre.d) := by rw [List.map_map]; rfl
abbrev tupK : List Key → PyData := fun z => .tuple (z.map keyD)
theorem mul_inv {K : PySem.W.Frag} {G : Rg} {H : Hp} {v : V} {fp : List Addr} {l : List (PyData × List PyData)} (h : Cl.ok K G H v fp (.mul .t l)) :
    ∃ p kvs qs, v = .ref p ∧ fp = p :: qs ∧ (p :: qs).Nodup ∧ H p = some (.dT kvs) ∧ l.map (·.1) = kvs.map (fun z => tupK z.1) ∧ kvs.map (·.2) = qs.map V.ref ∧ LsOk K G H qs (l.map (·.2)) := by
  obtain ⟨h, _⟩ := h
  have h : TreOk K G H v fp (.dic .t (l.map (·.1)) (l.map fun z => .lst (z.2.map .d))) := h
  rw [mulT_map] at h
  cases h with
  | dic h1 h2 h3 h4 =>
    obtain ⟨kvs, rfl, e1, e2⟩ := h2
    obtain ⟨e3, e4, e5⟩ := lists_inv h3
    exact ⟨_, kvs, _, rfl, rfl, List.nodup_cons.mpr ⟨h4, e4⟩, h1, e1, by rw [← e2]; exact e3, e5⟩
theorem LsOk.get {K : PySem.W.Frag} {G : Rg} {H : Hp} {qs : List Addr} {l : List (List PyData)} (h : LsOk K G H qs l) : ∀ {i : Nat} {q : Addr}, qs[i]? = some q → ∃ xs ds, l[i]? = some ds ∧ H q = some (.lst xs) ∧ DnA K G H xs ds := by
  induction h with
  | nil => intro i q e; simp at e
  | cons a b _ ih =>
    intro i q e
    cases i with
    | zero => cases e; exact ⟨_, _, rfl, a, b⟩
    | succ i => exact ih (by simpa using e)
theorem LsOk.set {K : PySem.W.Frag} {G : Rg} {H : Hp} {qs : List Addr} {l : List (List PyData)} (h : LsOk K G H qs l) : ∀ {i : Nat} {q : Addr} {xs : List V} {ds : List PyData}, qs[i]? = some q → qs.Nodup → H q ≠ none → (∀ ys, H q ≠ some (.tup ys)) → DnA K G H xs ds → LsOk K G (upd H q (.lst xs)) qs (l.set i ds) := by
  induction h with
  | nil => intro i q xs ds e; simp at e
  | @cons q0 qs0 xs0 ds0 l0 a b c ih =>
    intro i q xs ds e nd hq ht hd
    obtain ⟨n1, n2⟩ := List.nodup_cons.mp nd
    have t : TupLe H (upd H q (.lst xs)) := fun c ys z => by
      have : c ≠ q := fun w => by rw [w] at z; exact ht ys z
      rw [upd_ne this]; exact z
    cases i with
    | zero =>
      cases e
      exact .cons upd_same (hd.mono (fun _ _ z => z) t) (c.mono (fun _ _ z => z) t fun c hc => upd_ne (fun w => n1 (by rw [← w]; exact hc)))
    | succ i =>
      have e : qs0[i]? = some q := by simpa using e
      have ne : q0 ≠ q := fun w => n1 (by rw [w]; exact List.mem_of_getElem? e)
      exact .cons (by rw [upd_ne ne]; exact a) (b.mono (fun _ _ z => z) t) (ih e n2 hq ht hd)
theorem LsOk.snoc {K : PySem.W.Frag} {G : Rg} {H : Hp} {q : Addr} {xs : List V} {ds : List PyData} {qs : List Addr} {l : List (List PyData)} (h : LsOk K G H qs l) (hq : H q = some (.lst xs)) (hd : DnA K G H xs ds) : LsOk K G H (qs ++ [q]) (l ++ [ds]) := by
  induction h with
  | nil => exact .cons hq hd .nil
  | cons a b _ ih => exact .cons a b ih
theorem LsOk.nt {K : PySem.W.Frag} {G : Rg} {H : Hp} {qs : List Addr} {l : List (List PyData)} (h : LsOk K G H qs l) : ∀ q ∈ qs, ∃ xs, H q = some (.lst xs) := by
  induction h with
  | nil => intro q hq; cases hq
  | cons a b _ ih =>
    intro q hq
    rcases List.mem_cons.mp hq with rfl | hq
    · exact ⟨_, a⟩
    · exact ih q hq
section
variable {X : Cx} {W : WX} {sc : Scope} {N : List Str} {x y : Str} {e : Expr} {pos lpos p1 p2 a1 a2 c1 c2 : Pos} {fk : DF}
end
end PD
set_option Elab.async false
set_option linter.all false
set_option maxRecDepth 100000
set_option maxHeartbeats 4000000
set_option autoImplicit false
namespace PD
open PySem PySem.Spec L2 Srt SrtO
open PySem.W (alike AllAlike Sortable dataLe EachIs dataLt)
open PyProof.Rows hiding St
section
variable {X : Cx}
end
section
variable {X : Cx} {W : WX} {sc : Scope} {N : List Str} {a b c e : Expr} {pos p : Pos} {f g : DF} {k : DA}
end
section
variable {prog : Program} {w : World} {A : Around} {E : Value → Shared → Prop} {s : Shared} {β : Type} {vs : List Value} {bs : List β} {enc : β → PyData} {R : Value → β → Prop}
open PySem.W
end
section
variable {X : Cx} {W : WX} {sc : Scope} {N : List Str} {a e e2 : Expr} {p pos : Pos} {k : DA}
end
end PD
set_option Elab.async false
set_option linter.all false
set_option maxRecDepth 100000
set_option maxHeartbeats 4000000
set_option autoImplicit false
namespace PD
open PySem PySem.Spec L2
open PySem.W (alike dataLt AlikeAll minD)
open PyProof.Rows hiding St
section
variable {X : Cx} {W : WX} {sc : Scope} {N : List Str} {a b e e2 : Expr} {p pos : Pos} {k : DA} {f g : DF}
end
section
variable {X : Cx} {W : WX} {sc : Scope} {N : List Str} {x y : Str} {p p2 pos apos cpos : Pos}
end
def mulD (l : List (PyData × List PyData)) : List (PyData × PyData) := l.map fun z => (z.1, .list z.2)
theorem LsOk.dna {K : PySem.W.Frag} {G : Rg} {H : Hp} {qs : List Addr} {l : List (List PyData)} (h : LsOk K G H qs l) {G' : Rg} (g : RgLe G G') (k : ∀ q ∈ qs, ∀ o, H q = some o → G' q o) : DnA K G' H (qs.map V.ref) (l.map PyData.list) := by
  induction h with
  | nil => exact .nil
  | cons a b _ ih => exact .cons (.lst (.inl (k _ List.mem_cons_self _ a)) (b.mono g (TupLe.rf _))) (ih fun q hq => k q (List.mem_cons_of_mem _ hq))
theorem Sta.sink {K : PySem.W.Frag} {G : Gh} {H : Hp} {σ : St} {Γ : List Sl} {l : List (PyData × List PyData)} (s : Sta K G H σ Γ) (i : Nat) (hi : Γ[i]? = some (.own (.mul .t l))) :
    ∃ G', Sta K G' H σ (Γ.set i (.own (.dic .t (mulD l)))) ∧ Ext G H G' H := by
  obtain ⟨v, H', h1, S1, e1, fp, n1, n2, n3⟩ := s.releaseC i hi
  obtain ⟨p, kvs, qs, rfl, rfl, nd, hp, f1, f2, ls⟩ := mul_inv n3
  obtain ⟨m1, m2⟩ := List.nodup_cons.mp nd
  let N' : Hp := fun a => if a ∈ qs then H a else G.N a
  have w' := S1.w
  have hH : ∀ a o, H' a = some o → H a = some o := fun a o h => by
    by_cases q : a ∈ p :: qs
    · rw [(n2 a q).1] at h; cases h
    · rw [n1 a q]; exact h
  have hT : TupLe H' H := fun a xs h => hH a _ h
  have g : Grow G H' N' H [] := by
    refine ⟨fun a o h _ => hH a o h, fun _ h => absurd h (by simp), hT, fun a o h => ?_, fun a o h => ?_⟩
    · show (if a ∈ qs then H a else G.N a) = some o
      by_cases q : a ∈ qs
      · have := (w'.new a o h).1
        rw [(n2 a (List.mem_cons_of_mem _ q)).1] at this; cases this
      · rw [if_neg q]; exact h
    · have h : (if a ∈ qs then H a else G.N a) = some o := h
      by_cases q : a ∈ qs
      · rw [if_pos q] at h
        exact ⟨h, .inr (n2 a (List.mem_cons_of_mem _ q)).1⟩
      · rw [if_neg q] at h
        exact ⟨hH a o (w'.new a o h).1, .inl h⟩
  have hlt : i < Γ.length := (List.getElem?_eq_some_iff.mp hi).1
  obtain ⟨A, S⟩ := S1
  have fr := w'.fresh (n2 p (by simp)).1
  have lN : RgLe (RgN G) (fun a o => N' a = some o) := g.n
  have k1 : ∀ q ∈ [p], G.H0 q = none := fun q hq => by
    have : q = p := by simpa using hq
    rw [this]; exact fr.2.1
  have k2 : (mulD l).map (·.1) = kvs.map fun z => tupK z.1 := by
    unfold mulD
    rw [List.map_map]
    exact f1
  have k3 : DnA K (fun a o => N' a = some o) H (kvs.map (·.2)) ((mulD l).map (·.2)) := by
    rw [f2]
    have := ls.dna (G' := fun a o => N' a = some o) lN fun q hq o h => by
      show (if q ∈ qs then H q else G.N q) = some o
      rw [if_pos hq]; exact h
    unfold mulD
    rw [List.map_map]
    rw [List.map_map] at this
    exact this
  have k4 : ∀ q ∈ [p], H q ≠ none ∧ N' q = none ∧ (q ∈ A i ∨ H' q = none) := fun q hq => by
    have : q = p := by simpa using hq
    rw [this]
    refine ⟨by rw [hp]; simp, ?_, .inr (n2 p (by simp)).1⟩
    show (if p ∈ qs then H p else G.N p) = none
    rw [if_neg m1]; exact fr.1
  obtain ⟨S2, e2⟩ := S.step (i := i) (fp' := [p]) (s' := .own (.dic .t (mulD l))) (σ' := σ) g (fun q hq => absurd hq (by simp)) (fun j hj => rfl) rfl (fun _ => ⟨.ref p, h1, k1, p, .dT kvs, kvs.map (·.2), rfl, rfl, hp, ⟨kvs, rfl, k2, rfl⟩, k3⟩) k4
  rw [List.set_set] at S2
  exact ⟨_, S2, ⟨e2.h0, e2.p, e2.i, e2.e, e2.n, e2.nn, TupLe.rf _, e2.w⟩⟩
section
variable {X : Cx} {W : WX} {sc : Scope} {N : List Str} {ss : List Stmt} {g : DS}
end
end PD
set_option Elab.async false
set_option linter.all false
set_option maxRecDepth 100000
set_option maxHeartbeats 4000000
set_option autoImplicit false
namespace PD
open PySem L2
section
variable {X : Cx} {W : WX} {sc : Scope} {N : List Str} {e : Expr} {pos p1 : Pos} {x : Str}
end
end PD
set_option Elab.async false
set_option linter.all false
set_option maxRecDepth 100000
set_option maxHeartbeats 4000000
set_option autoImplicit false
namespace PySem
section
variable {prog : Program} {w : World} {A : Around} {E : Value → Shared → Prop} {s : Shared} {d : Addr} {es : Array DictEntry} {ep : Nat}
end
end PySem
namespace PD
open PySem L2
section
variable {X : Cx} {W : WX} {sc : Scope} {N : List Str} {e : Expr} {pos p : Pos} {k : DA}
end
end PD
set_option Elab.async false
set_option linter.all false
set_option maxRecDepth 100000
set_option maxHeartbeats 4000000
set_option autoImplicit false
namespace PD
open PySem L2
section
variable {K : PySem.W.Frag} {G : Rg} {H : Hp} {fp : List Addr}
theorem nodup_inj {α : Type} : ∀ {l : List α} {a b : Nat} {x : α}, l.Nodup → l[a]? = some x → l[b]? = some x → a = b
  | [], _, _, _, _, h, _ => by simp at h
  | y :: l, 0, 0, x, n, h1, h2 => rfl
  | y :: l, 0, b + 1, x, n, h1, h2 => by
    simp at h1 h2
    subst h1
    exact absurd (List.mem_of_getElem? h2) (List.nodup_cons.mp n).1
  | y :: l, a + 1, 0, x, n, h1, h2 => by
    simp at h1 h2
    subst h2
    exact absurd (List.mem_of_getElem? h1) (List.nodup_cons.mp n).1
  | y :: l, a + 1, b + 1, x, n, h1, h2 => by
    simp at h1 h2
    rw [nodup_inj (List.nodup_cons.mp n).2 h1 h2]
theorem ItsOk.app (l : List Addr) : ∀ {vs : List V} {nd : List Itm}, ItsOk K G H fp vs nd → ItsOk K G H (fp ++ l) vs nd
  | _, _, .nil => .nil
  | _, _, .d h a => .d h (ItsOk.app l a)
  | _, _, .r h a => .r (by rw [List.getElem?_append_left (List.getElem?_eq_some_iff.mp h).1]; exact h) (ItsOk.app l a)
theorem ItsOk.of_dna : ∀ {vs : List V} {ds : List PyData}, DnA K G H vs ds → ItsOk K G H fp vs (ds.map Itm.d)
  | _, _, .nil => .nil
  | _, _, .cons h a => .d h (ItsOk.of_dna a)
theorem ItsOk.append : ∀ {vs ws : List V} {nd ne : List Itm}, ItsOk K G H fp vs nd → ItsOk K G H fp ws ne → ItsOk K G H fp (vs ++ ws) (nd ++ ne)
  | _, _, _, _, .nil, b => b
  | _, _, _, _, .d h a, b => .d h (ItsOk.append a b)
  | _, _, _, _, .r h a, b => .r h (ItsOk.append a b)
theorem ItsOk.length : ∀ {vs : List V} {nd : List Itm}, ItsOk K G H fp vs nd → vs.length = nd.length
  | _, _, .nil => rfl
  | _, _, .d _ a => by simp [a.length]
  | _, _, .r _ a => by simp [a.length]
theorem ItsOk.getR : ∀ {vs : List V} {nd : List Itm} {i k : Nat}, ItsOk K G H fp vs nd → nd[i]? = some (.r k) → ∃ p, vs[i]? = some (.ref p) ∧ fp[k]? = some p
  | _, _, _, _, .nil, e => by simp at e
  | _, _, 0, _, .d h a, e => by simp at e
  | _, _, 0, _, .r h a, e => by
    simp at e
    subst e
    exact ⟨_, rfl, h⟩
  | _, _, i + 1, k, .d h a, e => by
    obtain ⟨p, h1, h2⟩ := ItsOk.getR (i := i) (k := k) a (by simpa using e)
    exact ⟨p, by simpa using h1, h2⟩
  | _, _, i + 1, k, .r h a, e => by
    obtain ⟨p, h1, h2⟩ := ItsOk.getR (i := i) (k := k) a (by simpa using e)
    exact ⟨p, by simpa using h1, h2⟩
theorem ItsOk.erase : ∀ {vs : List V} {nd : List Itm} (i : Nat), ItsOk K G H fp vs nd → ItsOk K G H fp (vs.eraseIdx i) (nd.eraseIdx i)
  | _, _, _, .nil => .nil
  | _, _, 0, .d h a => a
  | _, _, 0, .r h a => a
  | _, _, i + 1, .d h a => .d h (ItsOk.erase i a)
  | _, _, i + 1, .r h a => .r h (ItsOk.erase i a)
end
section
variable {K : PySem.W.Frag} {G : Gh} {H : Hp} {σ : St} {Γ : List Sl} {A : Nat → List Addr} {i j k : Nat} {ns : List (List Itm)} {nd : List Itm} {vs : List V} {p : Addr} {ds : List PyData}
theorem StaA.growA {H' N' : Hp} (S : StaA K G H σ Γ A) (g : Grow G H N' H' []) : StaA K ⟨G.H0, G.P, G.I, N', G.E⟩ H' σ Γ A ∧ Ext G H ⟨G.H0, G.P, G.I, N', G.E⟩ H' := by
  have e := g.ext S.w (fun p hp => absurd hp (by simp)) (fun p hp => absurd hp (by simp))
  refine ⟨⟨e.w, S.len, fun i s h => (S.sl i s h).mono e fun a ha => g.at (S.al i a ha).1 (by simp), fun i p hp => ?_, S.ae, S.dj, S.rf⟩, e⟩
  obtain ⟨h1, h2, h3⟩ := S.al i p hp
  refine ⟨by rw [g.at h1 (by simp)]; exact h1, ?_, h3⟩
  show N' p = none
  cases q : N' p with
  | none => rfl
  | some o =>
    rcases (g.n' p o q).2 with z | z
    · rw [h2] at z; cases z
    · exact absurd z h1
theorem StaA.newNode (S : StaA K G H σ Γ A) (hj : Γ[j]? = some (Sl.pool ns)) (hp : H p = none) (hi : ItsOk K (RgN G) H (A j) vs nd) :
    StaA K G (upd H p (.lst vs)) σ (Γ.set j (.pool (ns ++ [nd]))) (fun a => if a = j then A j ++ [p] else A a) ∧ Ext G H G (upd H p (.lst vs)) := by
  have g : Grow G H G.N (upd H p (.lst vs)) [] := grow_own S.w hp
  have e : Ext G H G (upd H p (.lst vs)) := g.ext S.w (fun p hp => absurd hp (by simp)) (fun p hp => absurd hp (by simp))
  obtain ⟨f1, f2, f3⟩ := S.w.fresh hp
  have hlt : j < Γ.length := (List.getElem?_eq_some_iff.mp hj).1
  obtain ⟨q0, q1, q2, q3⟩ := S.sl j _ hj
  have np : ∀ b, p ∉ A b := fun b h => (S.al b p h).1 hp
  have fE : G.E p = none := by
    cases q : G.E p with
    | none => rfl
    | some u => rw [(S.w.ex p u q).1] at hp; cases hp
  refine ⟨⟨e.w, by rw [List.length_set]; exact S.len, fun a s h => ?_, fun a q hq => ?_, fun a q hq => ?_, fun a b q ha hb => ?_, fun a b c ms h1 h2 => ?_⟩, e⟩
  · by_cases ha : a = j
    · subst ha
      rw [List.getElem?_set_self hlt] at h
      cases h
      rw [if_pos rfl]
      refine ⟨fun q hq => ?_, by simp [q1], ?_, fun c nd' hc => ?_⟩
      · rcases List.mem_append.mp hq with z | z
        · exact q0 q z
        · have : q = p := by simpa using z
          rw [this]; exact f2
      · rw [List.nodup_append]
        refine ⟨q2, by simp, fun x hx y hy => ?_⟩
        have : y = p := by simpa using hy
        rw [this]
        exact fun z => np a (z ▸ hx)
      · by_cases hcl : c < ns.length
        · rw [List.getElem?_append_left hcl] at hc
          obtain ⟨r, ws, g1, g2, g3⟩ := q3 c nd' hc
          refine ⟨r, ws, by rw [List.getElem?_append_left (by rw [q1]; exact hcl)]; exact g1, ?_, (g3.mono e.n e.t).app _⟩
          rw [upd_ne (show r ≠ p from fun z => np a (z ▸ List.mem_of_getElem? g1))]
          exact g2
        · have hcl2 : c = ns.length := by
            have := (List.getElem?_eq_some_iff.mp hc).1
            simp at this; omega
          subst hcl2
          rw [List.getElem?_append_right (Nat.le_refl _)] at hc
          simp at hc
          subst hc
          exact ⟨p, vs, by rw [List.getElem?_append_right (by rw [q1]; exact Nat.le_refl _), q1]; simp, upd_same, (hi.mono e.n e.t).app _⟩
    · rw [List.getElem?_set_ne (Ne.symm ha)] at h
      rw [if_neg ha]
      exact (S.sl a s h).mono e fun q hq => g.at (S.al a q hq).1 (by simp)
  · by_cases ha : a = j
    · rw [if_pos ha] at hq
      rcases List.mem_append.mp hq with z | z
      · obtain ⟨h1, h2, h3⟩ := S.al j q z
        exact ⟨by rw [g.at h1 (by simp)]; exact h1, h2, h3⟩
      · have : q = p := by simpa using z
        rw [this]
        exact ⟨by rw [upd_same]; simp, f1, .inr f2⟩
    · rw [if_neg ha] at hq
      obtain ⟨h1, h2, h3⟩ := S.al a q hq
      exact ⟨by rw [g.at h1 (by simp)]; exact h1, h2, h3⟩
  · by_cases ha : a = j
    · rw [if_pos ha] at hq
      rcases List.mem_append.mp hq with z | z
      · exact S.ae j q z
      · have : q = p := by simpa using z
        rw [this]; exact fE
    · rw [if_neg ha] at hq
      exact S.ae a q hq
  · by_cases ha : a = j
    · rw [if_pos ha] at *
      by_cases hb' : b = j
      · rw [ha, hb']
      · rw [if_neg hb'] at hb
        rcases List.mem_append.mp ‹q ∈ A j ++ [p]› with z | z
        · rw [ha]; exact S.dj j b q z hb
        · have : q = p := by simpa using z
          rw [this] at hb
          exact absurd hb (np b)
    · rw [if_neg ha] at *
      by_cases hb' : b = j
      · rw [if_pos hb'] at hb
        rcases List.mem_append.mp hb with z | z
        · rw [hb']; exact S.dj a j q ‹_› z
        · have : q = p := by simpa using z
          subst this
          exact absurd ‹q ∈ A a› (np a)
      · rw [if_neg hb'] at hb
        exact S.dj a b q ‹_› hb
  · have ha : a ≠ j := fun z => by
      subst z
      rw [List.getElem?_set_self hlt] at h1; cases h1
    rw [List.getElem?_set_ne (Ne.symm ha)] at h1
    by_cases hb : b = j
    · subst hb
      obtain ⟨r, g1, g2⟩ := S.rf a b c ns h1 hj
      refine ⟨r, ?_, g2⟩
      rw [if_pos rfl, List.getElem?_append_left (List.getElem?_eq_some_iff.mp g1).1]
      exact g1
    · rw [List.getElem?_set_ne (Ne.symm hb)] at h2
      rw [if_neg hb]
      exact S.rf a b c ms h1 h2
theorem StaA.mutNode {vs' : List V} {nd' : List Itm} (S : StaA K G H σ Γ A) (hj : Γ[j]? = some (Sl.pool ns)) (hk : (A j)[k]? = some p) (hi : ItsOk K (RgN G) H (A j) vs' nd') :
    StaA K G (upd H p (.lst vs')) σ (Γ.set j (.pool (ns.set k nd'))) A ∧ Ext G H G (upd H p (.lst vs')) := by
  have hlt : j < Γ.length := (List.getElem?_eq_some_iff.mp hj).1
  obtain ⟨q0, q1, q2, q3⟩ := S.sl j _ hj
  have hkl : k < ns.length := by rw [← q1]; exact (List.getElem?_eq_some_iff.mp hk).1
  have hpA : p ∈ A j := List.mem_of_getElem? hk
  obtain ⟨hHp, hN, hor⟩ := S.al j p hpA
  obtain ⟨r, ws, g1, g2, g3⟩ := q3 k ns[k] (List.getElem?_eq_getElem hkl)
  rw [hk] at g1
  cases g1
  have g : Grow G H G.N (upd H p (.lst vs')) [p] := grow_mut S.w g2 hN (fun xs z => by cases z) (fun x y z => by cases z)
  have e : Ext G H G (upd H p (.lst vs')) := g.ext S.w (fun q hq => by
    have : q = p := by simpa using hq
    rw [this]; exact hor) (fun q hq => by
    have : q = p := by simpa using hq
    rw [this]; exact S.ae j p hpA)
  have al' : ∀ b q, q ∈ A b → upd H p (.lst vs') q ≠ none := fun b q hq => by
    by_cases z : q = p
    · rw [z, upd_same]; simp
    · rw [upd_ne z]; exact (S.al b q hq).1
  refine ⟨⟨e.w, by rw [List.length_set]; exact S.len, fun a s h => ?_, fun a q hq => ⟨al' a q hq, (S.al a q hq).2⟩, S.ae, S.dj, fun a b c ms h1 h2 => ?_⟩, e⟩
  · by_cases ha : a = j
    · subst ha
      rw [List.getElem?_set_self hlt] at h
      cases h
      refine ⟨q0, by simp [q1], q2, fun c nd2 hc => ?_⟩
      by_cases hck : c = k
      · subst hck
        rw [List.getElem?_set_self hkl] at hc
        cases hc
        exact ⟨p, vs', hk, upd_same, hi.mono e.n e.t⟩
      · rw [List.getElem?_set_ne (Ne.symm hck)] at hc
        obtain ⟨r, ws, g1, g2, g3⟩ := q3 c nd2 hc
        refine ⟨r, ws, g1, ?_, g3.mono e.n e.t⟩
        rw [upd_ne fun z => ?_]
        · exact g2
        · subst z
          exact hck (nodup_inj q2 g1 hk)
    · rw [List.getElem?_set_ne (Ne.symm ha)] at h
      exact (S.sl a s h).mono e fun q hq => upd_ne fun z => ha (S.dj a j p (z ▸ hq) hpA)
  · have ha : a ≠ j := fun z => by
      subst z
      rw [List.getElem?_set_self hlt] at h1; cases h1
    rw [List.getElem?_set_ne (Ne.symm ha)] at h1
    by_cases hb : b = j
    · subst hb
      exact S.rf a b c ns h1 hj
    · rw [List.getElem?_set_ne (Ne.symm hb)] at h2
      exact S.rf a b c ms h1 h2
theorem StaA.adopt (S : StaA K G H σ Γ A) (hj : Γ[j]? = some (Sl.pool ns)) (hi : Γ[i]? = some (Sl.own (.lst ds))) :
    ∃ p, σ[i]? = some (some (V.ref p)) ∧ StaA K G H σ ((Γ.set i (.ref j ns.length)).set j (.pool (ns ++ [ds.map Itm.d]))) (fun a => if a = j then A j ++ [p] else if a = i then [] else A a) := by
  have hne : i ≠ j := fun z => by rw [z, hj] at hi; cases hi
  have hlt : j < Γ.length := (List.getElem?_eq_some_iff.mp hj).1
  have hlti : i < Γ.length := (List.getElem?_eq_some_iff.mp hi).1
  obtain ⟨q0, q1, q2, q3⟩ := S.sl j _ hj
  obtain ⟨v, h1, h0, p, vs, rfl, hfp, hp, hd⟩ := S.sl i _ hi
  have hpA : p ∈ A i := by rw [hfp]; simp
  have njp : p ∉ A j := fun z => hne (S.dj i j p hpA z)
  refine ⟨p, h1, ⟨S.w, by rw [List.length_set, List.length_set]; exact S.len, fun a s h => ?_, fun a q hq => ?_, fun a q hq => ?_, fun a b q ha hb => ?_, fun a b c ms g1 g2 => ?_⟩⟩
  · by_cases ha : a = j
    · subst ha
      rw [List.getElem?_set_self (by rw [List.length_set]; exact hlt)] at h
      cases h
      rw [if_pos rfl]
      refine ⟨fun q hq => ?_, by simp [q1], ?_, fun c nd' hc => ?_⟩
      · rcases List.mem_append.mp hq with z | z
        · exact q0 q z
        · have : q = p := by simpa using z
          rw [this]; exact h0 p hpA
      · rw [List.nodup_append]
        refine ⟨q2, by simp, fun x hx y hy => ?_⟩
        have : y = p := by simpa using hy
        rw [this]
        exact fun z => njp (z ▸ hx)
      · by_cases hcl : c < ns.length
        · rw [List.getElem?_append_left hcl] at hc
          obtain ⟨r, ws, g1, g2, g3⟩ := q3 c nd' hc
          exact ⟨r, ws, by rw [List.getElem?_append_left (by rw [q1]; exact hcl)]; exact g1, g2, g3.app _⟩
        · have hcl2 : c = ns.length := by
            have := (List.getElem?_eq_some_iff.mp hc).1
            simp at this; omega
          subst hcl2
          rw [List.getElem?_append_right (Nat.le_refl _)] at hc
          simp at hc
          subst hc
          exact ⟨p, vs, by rw [List.getElem?_append_right (by rw [q1]; exact Nat.le_refl _), q1]; simp, hp, ItsOk.of_dna hd⟩
    · rw [List.getElem?_set_ne (Ne.symm ha)] at h
      rw [if_neg ha]
      by_cases hai : a = i
      · subst hai
        rw [List.getElem?_set_self hlti] at h
        cases h
        rw [if_pos rfl]
        exact (rfl : ([] : List Addr) = [])
      · rw [List.getElem?_set_ne (Ne.symm hai)] at h
        rw [if_neg hai]
        exact S.sl a s h
  · by_cases ha : a = j
    · rw [if_pos ha] at hq
      rcases List.mem_append.mp hq with z | z
      · exact S.al j q z
      · have : q = p := by simpa using z
        rw [this]; exact S.al i p hpA
    · rw [if_neg ha] at hq
      by_cases hai : a = i
      · rw [if_pos hai] at hq; cases hq
      · rw [if_neg hai] at hq; exact S.al a q hq
  · by_cases ha : a = j
    · rw [if_pos ha] at hq
      rcases List.mem_append.mp hq with z | z
      · exact S.ae j q z
      · have : q = p := by simpa using z
        rw [this]; exact S.ae i p hpA
    · rw [if_neg ha] at hq
      by_cases hai : a = i
      · rw [if_pos hai] at hq; cases hq
      · rw [if_neg hai] at hq; exact S.ae a q hq
  · have own : ∀ b, b ≠ j → q ∈ (if b = j then A j ++ [p] else if b = i then [] else A b) → b ≠ i ∧ q ∈ A b := fun b hb h => by
      rw [if_neg hb] at h
      by_cases hbi : b = i
      · rw [if_pos hbi] at h; cases h
      · rw [if_neg hbi] at h; exact ⟨hbi, h⟩
    have inj : q ∈ A j ++ [p] → ∀ b, b ≠ j → b ≠ i → q ∈ A b → False := fun h b hb hbi hq => by
      rcases List.mem_append.mp h with z | z
      · exact hb (S.dj b j q hq z)
      · have : q = p := by simpa using z
        rw [this] at hq
        exact hbi (S.dj b i p hq hpA)
    by_cases ha' : a = j
    · by_cases hb' : b = j
      · rw [ha', hb']
      · obtain ⟨n1, n2⟩ := own b hb' hb
        rw [if_pos ha'] at ha
        exact (inj ha b hb' n1 n2).elim
    · obtain ⟨m1, m2⟩ := own a ha' ha
      by_cases hb' : b = j
      · rw [if_pos hb'] at hb
        exact (inj hb a ha' m1 m2).elim
      · obtain ⟨n1, n2⟩ := own b hb' hb
        exact S.dj a b q m2 n2
  · have ha : a ≠ j := fun z => by
      subst z
      rw [List.getElem?_set_self (by rw [List.length_set]; exact hlt)] at g1; cases g1
    rw [List.getElem?_set_ne (Ne.symm ha)] at g1
    by_cases hai : a = i
    · subst hai
      rw [List.getElem?_set_self hlti] at g1
      cases g1
      refine ⟨p, ?_, h1⟩
      rw [if_pos rfl, List.getElem?_append_right (by rw [q1]; exact Nat.le_refl _), q1]
      simp
    · rw [List.getElem?_set_ne (Ne.symm hai)] at g1
      by_cases hb : b = j
      · subst hb
        obtain ⟨r, k1, k2⟩ := S.rf a b c ns g1 hj
        refine ⟨r, ?_, k2⟩
        rw [if_pos rfl, List.getElem?_append_left (List.getElem?_eq_some_iff.mp k1).1]
        exact k1
      · rw [List.getElem?_set_ne (Ne.symm hb)] at g2
        have hbi : b ≠ i := fun z => by
          subst z
          rw [List.getElem?_set_self hlti] at g2; cases g2
        rw [List.getElem?_set_ne (Ne.symm hbi)] at g2
        rw [if_neg hb, if_neg hbi]
        exact S.rf a b c ms g1 g2
theorem StaA.putRef (S : StaA K G H σ Γ A) (hj : Γ[j]? = some (Sl.pool ns)) (hk : (A j)[k]? = some p) (hne : i ≠ j) : StaA K G H (σ.set i (some (.ref p))) (Γ.set i (.ref j k)) (fun a => if a = i then [] else A a) := by
  have sne : ∀ a, a ≠ i → (σ.set i (some (V.ref p)))[a]? = σ[a]? := fun a h => List.getElem?_set_ne (Ne.symm h)
  refine ⟨S.w, by rw [List.length_set, List.length_set]; exact S.len, fun a s h => ?_, fun a q hq => ?_, fun a q hq => ?_, fun a b q ha hb => ?_, fun a b c ms g1 g2 => ?_⟩
  · by_cases ha : a = i
    · subst ha
      have hlt : a < Γ.length := by simpa using (List.getElem?_eq_some_iff.mp h).1
      rw [List.getElem?_set_self hlt] at h
      cases h
      rw [if_pos rfl]
      exact (rfl : ([] : List Addr) = [])
    · rw [List.getElem?_set_ne (Ne.symm ha)] at h
      rw [if_neg ha, sne a ha]
      exact S.sl a s h
  · by_cases ha : a = i
    · rw [if_pos ha] at hq; cases hq
    · rw [if_neg ha] at hq; exact S.al a q hq
  · by_cases ha : a = i
    · rw [if_pos ha] at hq; cases hq
    · rw [if_neg ha] at hq; exact S.ae a q hq
  · by_cases ha' : a = i
    · rw [if_pos ha'] at ha; cases ha
    · rw [if_neg ha'] at ha
      by_cases hb' : b = i
      · rw [if_pos hb'] at hb; cases hb
      · rw [if_neg hb'] at hb; exact S.dj a b q ha hb
  · have hb : b ≠ i := fun z => by
      subst z
      have hlt : b < Γ.length := by simpa using (List.getElem?_eq_some_iff.mp g2).1
      rw [List.getElem?_set_self hlt] at g2; cases g2
    rw [List.getElem?_set_ne (Ne.symm hb)] at g2
    rw [if_neg hb]
    by_cases ha : a = i
    · subst ha
      have hlt : a < Γ.length := by simpa using (List.getElem?_eq_some_iff.mp g1).1
      rw [List.getElem?_set_self hlt] at g1
      cases g1
      exact ⟨p, hk, List.getElem?_set_self (by rw [← S.len]; exact hlt)⟩
    · rw [List.getElem?_set_ne (Ne.symm ha)] at g1
      rw [sne a ha]
      exact S.rf a b c ms g1 g2
def isRef (j : Nat) : Sl → Bool
  | .ref i _ => i == j
  | _ => false
theorem StaA.mkPool (S : StaA K G H σ Γ A) (hj : Γ[j]? = some Sl.un) (hr : Γ.any (isRef j) = false) : StaA K G H σ (Γ.set j (.pool [])) A := by
  have hlt : j < Γ.length := (List.getElem?_eq_some_iff.mp hj).1
  have hA : A j = [] := S.sl j _ hj
  refine ⟨S.w, by rw [List.length_set]; exact S.len, fun a s h => ?_, S.al, S.ae, S.dj, fun a b c ms g1 g2 => ?_⟩
  · by_cases ha : a = j
    · subst ha
      rw [List.getElem?_set_self hlt] at h
      cases h
      rw [hA]
      exact ⟨fun q hq => absurd hq (by simp), rfl, .nil, fun c nd hc => by simp at hc⟩
    · rw [List.getElem?_set_ne (Ne.symm ha)] at h
      exact S.sl a s h
  · have ha : a ≠ j := fun z => by
      subst z
      rw [List.getElem?_set_self hlt] at g1; cases g1
    rw [List.getElem?_set_ne (Ne.symm ha)] at g1
    by_cases hb : b = j
    · subst hb
      have : Γ.any (isRef b) = true := List.any_eq_true.mpr ⟨_, List.mem_of_getElem? g1, by simp [isRef]⟩
      rw [hr] at this; cases this
    · rw [List.getElem?_set_ne (Ne.symm hb)] at g2
      exact S.rf a b c ms g1 g2
theorem StaA.sink (S : StaA K G H σ Γ A) (hj : Γ[j]? = some (Sl.pool ns)) : ∃ G', Sta K G' H σ (Γ.set j .un) ∧ Ext G H G' H ∧ ∀ p o, p ∈ A j → H p = some o → G'.N p = some o := by
  obtain ⟨q0, q1, q2, q3⟩ := S.sl j _ hj
  let N' : Hp := fun a => if a ∈ A j then H a else G.N a
  have Nin : ∀ a, a ∈ A j → N' a = H a := fun a h => if_pos h
  have Nout : ∀ a, a ∉ A j → N' a = G.N a := fun a h => if_neg h
  have n1 : ∀ a o, G.N a = some o → N' a = some o := fun a o h => by
    rw [Nout a fun z => by rw [(S.al j a z).2.1] at h; cases h]
    exact h
  have n2 : ∀ a o, N' a = some o → H a = some o ∧ (G.N a = some o ∨ (a ∈ A j ∧ G.H0 a = none)) := fun a o h => by
    by_cases z : a ∈ A j
    · rw [Nin a z] at h; exact ⟨h, .inr ⟨z, q0 a z⟩⟩
    · rw [Nout a z] at h; exact ⟨(S.w.new a o h).1, .inl h⟩
  have w : Wf ⟨G.H0, G.P, G.I, N', G.E⟩ H := ⟨S.w.keep, fun a o h => ⟨(n2 a o h).1, trivial⟩, S.w.pal, S.w.p0, fun a o h => ⟨(S.w.ex a o h).1, by
    show N' a = none
    rw [Nout a fun z => by have h : G.E a = some o := h; rw [S.ae j a z] at h; cases h]
    exact (S.w.ex a o h).2.1, (S.w.ex a o h).2.2⟩, S.w.iv⟩
  have e : Ext G H ⟨G.H0, G.P, G.I, N', G.E⟩ H := ⟨rfl, rfl, rfl, rfl, n1, fun a o h => (n2 a o h).2.imp id fun z => z.2, TupLe.rf _, w⟩
  refine ⟨_, ⟨fun a => if a = j then [] else A a, w, by rw [List.length_set]; exact S.len, fun a s h => ?_, fun a q hq => ?_, fun a q hq => ?_, fun a b q ha hb => ?_, rf_set S.rf rfl (fun a ha => if_neg ha) (fun _ _ => rfl)⟩, e, fun p o hp ho => by rw [show (⟨G.H0, G.P, G.I, N', G.E⟩ : Gh).N p = N' p from rfl, Nin p hp]; exact ho⟩
  · by_cases ha : a = j
    · subst ha
      rw [List.getElem?_set_self (List.getElem?_eq_some_iff.mp hj).1] at h
      cases h
      rw [if_pos rfl]
      exact (rfl : ([] : List Addr) = [])
    · rw [List.getElem?_set_ne (Ne.symm ha)] at h
      rw [if_neg ha]
      exact (S.sl a s h).mono e fun q hq => rfl
  · by_cases ha : a = j
    · rw [if_pos ha] at hq; cases hq
    · rw [if_neg ha] at hq
      obtain ⟨h1, h2, h3⟩ := S.al a q hq
      refine ⟨h1, ?_, h3⟩
      show N' q = none
      rw [Nout q fun z => ha (S.dj a j q hq z)]
      exact h2
  · by_cases ha : a = j
    · rw [if_pos ha] at hq; cases hq
    · rw [if_neg ha] at hq; exact S.ae a q hq
  · by_cases ha' : a = j
    · rw [if_pos ha'] at ha; cases ha
    · rw [if_neg ha'] at ha
      by_cases hb' : b = j
      · rw [if_pos hb'] at hb; cases hb
      · rw [if_neg hb'] at hb; exact S.dj a b q ha hb
end
def unrL (f : Nat → Option PyData) : List Itm → Option (List PyData)
  | [] => some []
  | .d x :: l => (unrL f l).map (x :: ·)
  | .r k :: l => (f k).bind fun d => (unrL f l).map (d :: ·)
def unr (ns : List (List Itm)) : Nat → Nat → Option PyData
  | 0 => fun _ => none
  | n + 1 => fun k => (ns[k]?).bind fun nd => (unrL (unr ns n) nd).map PyData.list
theorem unrL_ok {K : PySem.W.Frag} {G G' : Rg} {H : Hp} {fp : List Addr} {f : Nat → Option PyData} (g : RgLe G G') (hf : ∀ k d p, f k = some d → fp[k]? = some p → Dn K G' H (.ref p) d) : ∀ {vs : List V} {nd : List Itm} {ds : List PyData}, ItsOk K G H fp vs nd → unrL f nd = some ds → DnA K G' H vs ds
  | _, _, _, .nil, e => by cases e; exact .nil
  | _, _, ds, .d (x := x) (nd := nd) h a, e => by
    have e : (unrL f nd).map (x :: ·) = some ds := e
    cases q : unrL f nd with
    | none => rw [q] at e; cases e
    | some es => rw [q] at e; cases e; exact .cons (h.mono g (TupLe.rf _)) (unrL_ok g hf a q)
  | _, _, ds, .r (k := k) (nd := nd) h a, e => by
    have e : ((f k).bind fun d => (unrL f nd).map (d :: ·)) = some ds := e
    cases q : f k with
    | none => rw [q] at e; cases e
    | some d =>
      rw [q] at e
      have e : (unrL f nd).map (d :: ·) = some ds := e
      cases q2 : unrL f nd with
      | none => rw [q2] at e; cases e
      | some es => rw [q2] at e; cases e; exact .cons (hf k d _ q h) (unrL_ok g hf a q2)
theorem unr_ok {K : PySem.W.Frag} {G G' : Rg} {H : Hp} {fp : List Addr} {ns : List (List Itm)} (P : PoolOk K G H fp ns) (g : RgLe G G') (hN : ∀ p o, p ∈ fp → H p = some o → G' p o) : ∀ (n k : Nat) (d : PyData) (p : Addr), unr ns n k = some d → fp[k]? = some p → Dn K G' H (.ref p) d
  | 0, _, _, _, e, _ => by cases e
  | n + 1, k, d, p, e, hk => by
    have e : ((ns[k]?).bind fun nd => (unrL (unr ns n) nd).map PyData.list) = some d := e
    cases q : ns[k]? with
    | none => rw [q] at e; cases e
    | some nd =>
      rw [q] at e
      have e : (unrL (unr ns n) nd).map PyData.list = some d := e
      cases q2 : unrL (unr ns n) nd with
      | none => rw [q2] at e; cases e
      | some ds =>
        rw [q2] at e
        cases e
        obtain ⟨r, vs, h1, h2, h3⟩ := P.2.2 k nd q
        rw [hk] at h1
        cases h1
        exact .lst (.inl (hN p _ (List.mem_of_getElem? hk) h2)) (unrL_ok g (fun k d p e hp => unr_ok P g hN n k d p e hp) h3 q2)
def poolA (Γ : List Sl) (j : Nat) : Option (List (List Itm)) := match Γ[j]? with
  | some (.pool ns) => some ns
  | _ => none
theorem poolA_ok {Γ : List Sl} {j : Nat} {ns : List (List Itm)} (h : poolA Γ j = some ns) : Γ[j]? = some (Sl.pool ns) := by
  unfold poolA at h
  split at h
  · cases h; assumption
  · cases h
def refA (Γ : List Sl) (i j : Nat) : Option Nat := match Γ[i]? with
  | some (.ref j' k) => if j' = j then some k else none
  | _ => none
theorem refA_ok {Γ : List Sl} {i j k : Nat} (h : refA Γ i j = some k) : Γ[i]? = some (Sl.ref j k) := by
  unfold refA at h
  split at h
  · split at h
    · rename_i e
      cases h; subst e; assumption
    · cases h
  · cases h
def adoptL (j : Nat) : List AV → List Sl → Option (List Itm × List Sl)
  | [], Γ => some ([], Γ)
  | .d true x :: as, Γ => (adoptL j as Γ).map fun z => (.d x :: z.1, z.2)
  | .d false _ :: _, _ => none
  | .s i :: as, Γ => match Γ[i]?, poolA Γ j with
    | some (.own (.lst ds)), some ns => (adoptL j as ((Γ.set i (.ref j ns.length)).set j (.pool (ns ++ [ds.map Itm.d])))).map fun z => (.r ns.length :: z.1, z.2)
    | some (.ref j' k), some _ => if j' = j then (adoptL j as Γ).map fun z => (.r k :: z.1, z.2) else none
    | _, _ => none
theorem adoptL_ok {K : PySem.W.Frag} {G : Gh} {H : Hp} {σ : St} {j : Nat} : ∀ {as : List AV} {Γ Γ' : List Sl} {is : List Itm} {A : Nat → List Addr} {vs : List V}, adoptL j as Γ = some (is, Γ') → StaA K G H σ Γ A → AVs K G H σ vs as →
    ∃ A' l, StaA K G H σ Γ' A' ∧ A' j = A j ++ l ∧ ItsOk K (RgN G) H (A' j) vs is
  | [], Γ, Γ', is, A, vs, e, S, h => by
    cases h
    cases e
    exact ⟨A, [], S, by simp, .nil⟩
  | .d true x :: as, Γ, Γ', is, A, v :: vs, e, S, .cons hv av => by
    have e : (adoptL j as Γ).map (fun z => (Itm.d x :: z.1, z.2)) = some (is, Γ') := e
    cases q : adoptL j as Γ with
    | none => rw [q] at e; cases e
    | some z =>
      rw [q] at e
      cases e
      obtain ⟨A', l, S', h1, h2⟩ := adoptL_ok q S av
      exact ⟨A', l, S', h1, .d hv h2⟩
  | .d false x :: as, Γ, Γ', is, A, v :: vs, e, S, .cons hv av => by cases e
  | .s i :: as, Γ, Γ', is, A, v :: vs, e, S, .cons hv av => by
    have hv : σ[i]? = some (some v) := hv
    unfold adoptL at e
    split at e
    · rename_i ds ns hi hj
      have hj := poolA_ok hj
      obtain ⟨p, h1, S1⟩ := S.adopt hj hi
      rw [hv] at h1
      cases h1
      cases q : adoptL j as ((Γ.set i (.ref j ns.length)).set j (.pool (ns ++ [ds.map Itm.d]))) with
      | none => rw [q] at e; cases e
      | some z =>
        rw [q] at e
        cases e
        obtain ⟨A', l, S', h1, h2⟩ := adoptL_ok q S1 av
        rw [if_pos rfl] at h1
        obtain ⟨_, q1, _, _⟩ := S.sl j _ hj
        refine ⟨A', p :: l, S', by rw [h1]; simp, .r ?_ h2⟩
        rw [h1, List.append_assoc, List.getElem?_append_right (by rw [q1]; exact Nat.le_refl _), q1]
        simp
    · rename_i j' k ns hi hj
      have hj := poolA_ok hj
      split at e
      · rename_i hjj
        subst hjj
        cases q : adoptL j' as Γ with
        | none => rw [q] at e; cases e
        | some z =>
          rw [q] at e
          cases e
          obtain ⟨p, g1, g2⟩ := S.rf i j' k ns hi hj
          rw [hv] at g2
          cases g2
          obtain ⟨A', l, S', h1, h2⟩ := adoptL_ok q S av
          refine ⟨A', l, S', h1, .r ?_ h2⟩
          rw [h1, List.getElem?_append_left (List.getElem?_eq_some_iff.mp g1).1]
          exact g1
      · cases e
    · cases e
abbrev DR := List Sl → R (Nat × List Sl)
def bPool (j : Nat) (g : DS) : DS := fun Γ => match Γ[j]?, Γ.any (isRef j) with
  | some .un, false => g (Γ.set j (.pool []))
  | _, _ => .bad
def dVarR (i j : Nat) : DF := fun Γ => (R.ofO (refA Γ i j)).bind fun _ => (R.ofO (poolA Γ j)).bind fun _ => .val (.s i, Γ)
def nodeA (Γ : List Sl) (i j : Nat) : Option (Nat × List (List Itm) × List Itm) := (refA Γ i j).bind fun k => (poolA Γ j).bind fun ns => (ns[k]?).map fun nd => (k, ns, nd)
theorem nodeA_ok {Γ : List Sl} {i j : Nat} {z : Nat × List (List Itm) × List Itm} (h : nodeA Γ i j = some z) : Γ[i]? = some (Sl.ref j z.1) ∧ Γ[j]? = some (Sl.pool z.2.1) ∧ z.2.1[z.1]? = some z.2.2 := by
  unfold nodeA at h
  cases h1 : refA Γ i j with
  | none => rw [h1] at h; cases h
  | some k =>
    rw [h1] at h
    have h : ((poolA Γ j).bind fun ns => (ns[k]?).map fun nd => (k, ns, nd)) = some z := h
    cases h2 : poolA Γ j with
    | none => rw [h2] at h; cases h
    | some ns =>
      rw [h2] at h
      have h : ((ns[k]?).map fun nd => (k, ns, nd)) = some z := h
      cases h3 : ns[k]? with
      | none => rw [h3] at h; cases h
      | some nd => rw [h3] at h; cases h; exact ⟨refA_ok h1, poolA_ok h2, h3⟩
def kLenR (i j : Nat) (Γ : List Sl) : List AV → R AV
  | [.s i'] => if i' = i then (R.ofO (nodeA Γ i j)).bind fun z => .val (.d true (.int (z.2.2.length : Nat))) else .bad
  | _ => .bad
def rNew (j : Nat) (k : DA) : DR := fun Γ => (k Γ).bind fun z => (R.req (szB z.1)).bind fun _ => (R.ofO (adoptL j z.1 z.2)).bind fun w => (R.ofO (poolA w.2 j)).bind fun ns => .val (ns.length, w.2.set j (.pool (ns ++ [w.1])))
def rPopR (i j : Nat) (f : DF) : DR := fun Γ => (R.ofO (nodeA Γ i j)).bind fun _ => (f Γ).bind fun x => (R.ofO (intA x.1)).bind fun n => (R.ofO (nodeA x.2 i j)).bind fun z => (R.req (decide (-(2 ^ 63) ≤ n ∧ n < 2 ^ 63))).bind fun _ => (R.ofO (ixN z.2.2.length n)).bind fun at_ => match z.2.2[at_]? with
  | some (.r k) => .val (k, x.2.set j (.pool (z.2.1.set z.1 (z.2.2.eraseIdx at_))))
  | _ => .bad
def bSetR (i j : Nat) (r : DR) : DS := fun Γ => (r Γ).bind fun z => (R.req (decide (i ≠ j))).bind fun _ => (R.ofO (poolA z.2 j)).bind fun _ => .val (.nx, z.2.set i (.ref j z.1))
def dClrR (i j : Nat) : DF := fun Γ => (R.ofO (nodeA Γ i j)).bind fun z => .val (.d true .none, Γ.set j (.pool (z.2.1.set z.1 [])))
def dExtR (i j : Nat) (k : DA) : DF := fun Γ => (R.ofO (nodeA Γ i j)).bind fun _ => (k Γ).bind fun z => (R.req (szB z.1)).bind fun _ => (R.ofO (adoptL j z.1 z.2)).bind fun w => (R.ofO (nodeA w.2 i j)).bind fun y => (R.req (szB (y.2.2 ++ w.1))).bind fun _ => .val (.d true .none, w.2.set j (.pool (y.2.1.set y.1 (y.2.2 ++ w.1))))
def dFrzP (i j : Nat) : DF := fun Γ => (R.ofO (nodeA Γ i j)).bind fun z => (R.ofO (unr z.2.1 100 z.1)).bind fun d => .val (.d true d, Γ.set j .un)
section
variable {X : Cx} {W : WX} {sc : Scope} {N : List Str} {e e2 : Expr} {es : List Expr} {apos cpos pos p p2 : Pos} {k : DA} {f : DF} {g : DS} {ss : List Stmt} {x y : Str} {i j : Nat} {r : DR}
theorem cs_pool (j : Nat) (h : CS X W ss g) : CS X W ss (bPool j g) := fun Γ => by
  unfold bPool
  split
  · rename_i h1 h2
    exact pss_imp (h _) fun D σ H ⟨G, ⟨A, S⟩, q⟩ => ⟨G, ⟨A, S.mkPool h1 h2⟩, q⟩
  · exact pss_imp (h Γ) fun D σ H ⟨G, S, q⟩ => q.elim
theorem evp_ref (C : Cf0 X W sc N) {Γ : List Sl} {k : Nat} {ns : List (List Itm)} (hg : Γ[i]? = some (Sl.ref j k)) (hj : Γ[j]? = some (Sl.pool ns)) (hN : N[i]? = some x) (hv : visB sc x = true)
    (hd : (x == ("__debug__" : Str)) = false := by decide +kernel) (hcd : (x == ("__classdict__" : Str)) = false := by decide +kernel) : EvP X W Γ (.Name x p) (.s i) := by
  refine evp_of (pe_var (i := i) (by rw [C.hN]; exact hN) (by rw [C.hsc]; exact vis_of hv) hd hcd) fun σ H Q G S kk => ?_
  obtain ⟨A, T⟩ := id S
  obtain ⟨q, _, h1⟩ := T.rf i j k ns hg hj
  exact ⟨_, h1, kk G H _ (Ext.rf S.w) S h1⟩
theorem ce_varR (C : Cf0 X W sc N) (i j : Nat) (hN : N[i]? = some x) (hv : visB sc x = true) (hd : (x == ("__debug__" : Str)) = false := by decide +kernel) (hcd : (x == ("__classdict__" : Str)) = false := by decide +kernel) : CE X W (.Name x p) (dVarR i j) := fun Γ => by
  unfold dVarR
  cases h1 : refA Γ i j with
  | none => exact ev_bad
  | some k =>
    cases h2 : poolA Γ j with
    | none => exact ev_bad
    | some ns => exact evp_ref C (refA_ok h1) (poolA_ok h2) hN hv hd hcd
def dVarX (i j : Nat) : DF := fun Γ => match Γ[i]? with
  | some (.ref _ _) => dVarR i j Γ
  | _ => dVar i Γ
theorem ce_varX (C : Cf0 X W sc N) (i j : Nat) (hN : N[i]? = some x) (hv : visB sc x = true) (hd : (x == ("__debug__" : Str)) = false := by decide +kernel) (hcd : (x == ("__classdict__" : Str)) = false := by decide +kernel) : CE X W (.Name x p) (dVarX i j) := fun Γ => by
  unfold dVarX
  split
  · exact ce_varR C i j hN hv hd hcd Γ
  · exact ce_var C i hN hv hd hcd Γ
theorem StaA.node {K : PySem.W.Frag} {G : Gh} {H : Hp} {σ : St} {Γ : List Sl} {A : Nat → List Addr} {z : Nat × List (List Itm) × List Itm} (S : StaA K G H σ Γ A) (h : nodeA Γ i j = some z) : ∃ a vs, (A j)[z.1]? = some a ∧ σ[i]? = some (some (V.ref a)) ∧ H a = some (.lst vs) ∧ ItsOk K (RgN G) H (A j) vs z.2.2 := by
  obtain ⟨h1, h2, h3⟩ := nodeA_ok h
  obtain ⟨a, g1, g2⟩ := S.rf i j z.1 z.2.1 h1 h2
  obtain ⟨_, _, _, q⟩ := S.sl j _ h2
  obtain ⟨b, vs, k1, k2, k3⟩ := q z.1 z.2.2 h3
  rw [g1] at k1
  cases k1
  exact ⟨a, vs, g1, g2, k2, k3⟩
theorem pa_ref (C : Cf0 X W sc N) {Γ : List Sl} {z : Nat × List (List Itm) × List Itm} (h : nodeA Γ i j = some z) (hN : N[i]? = some x) (hv : visB sc x = true) (hd : (x == ("__debug__" : Str)) = false := by decide +kernel) (hcd : (x == ("__classdict__" : Str)) = false := by decide +kernel) : EvP X W Γ (.Name x p) (.s i) :=
  evp_ref C (nodeA_ok h).1 (nodeA_ok h).2.1 hN hv hd hcd
theorem ce_lenR (C : Cf0 X W sc N) (i j : Nat) (hg : glB sc "len" = true) (hm : X.mg "len" = none) (ha : CA X W [e] k) (he : starEach [e] X.env = (false, eval e X.env) :: starEach [] X.env := by rfl) : CE X W (.Call (.Name "len" p) [e] [] pos) (dB (kLenR i j) k) :=
  ce_bB C (kLenR i j) call_len_seq hg hm PySem.boot_len ha (fun as Γ2 G H σ vs Q S h q => by
    unfold kLenR at q
    split at q
    · rename_i i'
      obtain ⟨v, rfl, hv⟩ := avs_one h
      split at q
      · rename_i hi
        subst hi
        cases hz : nodeA Γ2 i' j with
        | none => rw [hz] at q; exact q.elim
        | some z =>
          rw [hz] at q
          obtain ⟨A, T⟩ := id S
          obtain ⟨a, ws, g1, g2, g3, g4⟩ := T.node hz
          have hv : σ[i']? = some (some v) := hv
          rw [g2] at hv
          cases hv
          refine ⟨a, ws, rfl, .inl (SqL.of g3), Pk.v q S ?_⟩
          rw [g4.length]
          exact .int _
      · exact q.elim
    · exact q.elim) (by decide +kernel) (by decide +kernel) he
def rdR (X : Cx) (W : WX) (Γ : List Sl) (j : Nat) (m : R (Nat × List Sl)) : TE := fun σ H Q => ∃ G, Sta X.K G H σ Γ ∧ Pst X W G H σ m fun r G' H' => ∀ A p ns, StaA X.K G' H' σ r.2 A → r.2[j]? = some (Sl.pool ns) → (A j)[r.1]? = some p → Q (.ref p) H'
def CR (X : Cx) (W : WX) (j : Nat) (e : Expr) (r : DR) : Prop := ∀ Γ, PE X e (rdR X W Γ j (r Γ))
theorem cr_new (j : Nat) (ha : CA X W es k) : CR X W j (.List es pos) (rNew j k) := fun Γ =>
  pe_imp (pe_lst (ha Γ)) fun σ H Q ⟨G, S, q⟩ => ⟨G, S, (Pst.bind q).imp fun z G1 H1 e1 p1 vs S1 av => by
    obtain ⟨hsz, p1⟩ := Pst.req p1
    obtain ⟨w, hw, p1⟩ := Pst.ofO p1
    obtain ⟨ns, hn, p1⟩ := Pst.ofO p1
    refine ⟨by rw [av.len]; exact of_decide_eq_true hsz, fun q hq => ?_⟩
    obtain ⟨A, T⟩ := S1
    obtain ⟨is, Γ2⟩ := w
    obtain ⟨A2, l, T2, _, hi⟩ := adoptL_ok hw T av
    obtain ⟨T3, e3⟩ := T2.newNode (poolA_ok hn) hq hi
    have hlt : j < Γ2.length := (List.getElem?_eq_some_iff.mp (poolA_ok hn)).1
    obtain ⟨_, q1, _⟩ := T2.sl j _ (poolA_ok hn)
    refine p1 G1 _ e3 _ q _ T3 (List.getElem?_set_self hlt) ?_
    rw [if_pos rfl, List.getElem?_append_right (by rw [q1]; exact Nat.le_refl _), q1]
    simp⟩
theorem c1_setR (C : Cf0 X W sc N) (i j : Nat) {p' : Pos} (hN : N[i]? = some x) (hv : Sto X sc x) (he : CR X W j e r) (hs : swapsWith e (some (.Name x p')) pos.line X.env = pure false := by rfl) : C1 X W (.Assign [.Name x p'] e pos) (bSetR i j r) := fun Γ => by
  have hx : Loc X.env.scope x := by rw [C.hsc]; exact hv.1
  refine ps_imp (ps_set (i := i) (by rw [C.hN]; exact C.nd) (by rw [C.hN]; exact hN) hx (he Γ) hs (by rw [C.hsc]; exact hv.2)) fun D σ H ⟨G, S, p⟩ => ⟨G, S, (Pst.bind p).imp fun z G1 H1 e1 p1 A a ms T hp ha => ?_⟩
  obtain ⟨hne, p1⟩ := Pst.req p1
  obtain ⟨ns, hn, p1⟩ := Pst.ofO p1
  exact p1 G1 H1 (Ext.rf T.w) _ ⟨_, T.putRef hp ha (of_decide_eq_true hne)⟩
theorem ce_clrR (C : Cf0 X W sc N) (i j : Nat) (hN : N[i]? = some x) (hv : visB sc x = true) (hd : (x == ("__debug__" : Str)) = false := by decide +kernel) (hcd : (x == ("__classdict__" : Str)) = false := by decide +kernel) (hline : (apos.endLine == cpos.line) = true := by rfl)
    (hbase : attributeBase (.Name x p) "clear" X.env (eval (.Name x p) X.env) = eval (.Name x p) X.env := by rfl) : CE X W (.Call (.Attribute (.Name x p) "clear" apos) [] [] cpos) (dClrR i j) := fun Γ => by
  unfold dClrR
  cases h : nodeA Γ i j with
  | none => exact ev_bad
  | some z =>
    refine pe_imp (pe_bm0 PySem.F.plainAttrs_list PySem.F.slot_list_clear PySem.F.type_list_clear mt_clear (pa_ref (W := W) C h hN hv hd hcd) hbase hline) fun σ H Q ⟨G, S, q⟩ => ⟨G, S, fun G1 H1 e1 v S1 hx => ?_⟩
    obtain ⟨A, T⟩ := S1
    obtain ⟨a, ws, g1, g2, g3, g4⟩ := T.node h
    have hx : σ[i]? = some (some v) := hx
    rw [g2] at hx
    cases hx
    obtain ⟨T2, e2⟩ := T.mutNode (nodeA_ok h).2.1 g1 (vs' := []) (nd' := []) .nil
    exact ⟨.inl ⟨rfl, ws, SqL.of g3⟩, a, ws, rfl, rfl, g3, q G1 _ (e1.tr e2) .non ⟨A, T2⟩ .non⟩
theorem ce_extR (C : Cf0 X W sc N) (i j : Nat) {lpos : Pos} (hN : N[i]? = some x) (hv : visB sc x = true) (ha : CA X W es k) (hs : starEach [.List es lpos] X.env = (false, eval (.List es lpos) X.env) :: starEach [] X.env := by rfl) (hd : (x == ("__debug__" : Str)) = false := by decide +kernel) (hcd : (x == ("__classdict__" : Str)) = false := by decide +kernel) (hline : (apos.endLine == cpos.line) = true := by rfl)
    (hbase : attributeBase (.Name x p) "extend" X.env (eval (.Name x p) X.env) = eval (.Name x p) X.env := by rfl) : CE X W (.Call (.Attribute (.Name x p) "extend" apos) [.List es lpos] [] cpos) (dExtR i j k) := fun Γ => by
  unfold dExtR
  cases h0 : nodeA Γ i j with
  | none => exact ev_bad
  | some z0 =>
    refine pe_imp (pe_bm PySem.F.plainAttrs_list PySem.F.slot_list_extend PySem.F.type_list_extend mt_extend (pa_ref (W := W) (p := p) C h0 hN hv hd hcd) (pa_cons (pe_lst (ha Γ)) pa_nil hs) hbase (by rw [hs]; rfl) hline hs rfl) fun σ H Q ⟨G, S, pp⟩ => ⟨G, S, fun G1 H1 e1 v S1 hx => ?_⟩
    obtain ⟨A1, T1⟩ := id S1
    obtain ⟨a, ws, g1, g2, g3, g4⟩ := T1.node h0
    have hx : σ[i]? = some (some v) := hx
    rw [g2] at hx
    cases hx
    have pp : Pst X W G H σ ((k Γ).bind fun z => (R.req (szB z.1)).bind fun _ => (R.ofO (adoptL j z.1 z.2)).bind fun w => (R.ofO (nodeA w.2 i j)).bind fun y => (R.req (szB (y.2.2 ++ w.1))).bind fun _ => .val (AV.d true .none, w.2.set j (.pool (y.2.1.set y.1 (y.2.2 ++ w.1))))) _ := pp
    refine ⟨.inl ⟨rfl, ws, SqL.of g3⟩, G1, S1, (Pst.bind (Pst.ext pp e1)).imp fun z G2 H2 e2 p2 us S2 av => ?_⟩
    obtain ⟨hsz, p2⟩ := Pst.req p2
    obtain ⟨w, hw, p2⟩ := Pst.ofO p2
    obtain ⟨y, hy, p2⟩ := Pst.ofO p2
    obtain ⟨hsz2, p2⟩ := Pst.req p2
    refine ⟨by rw [av.len]; exact of_decide_eq_true hsz, fun q hq => ?_⟩
    obtain ⟨A2, T2⟩ := S2
    obtain ⟨is, Γ2⟩ := w
    obtain ⟨A3, l, T3, _, hi⟩ := adoptL_ok hw T2 av
    obtain ⟨T4, e4⟩ := T3.growA (grow_own (o := .lst us) T3.w hq)
    obtain ⟨b, vs, k1, k2, k3, k4⟩ := T4.node hy
    rw [g2] at k2
    cases k2
    obtain ⟨T5, e5⟩ := T4.mutNode (nodeA_ok hy).2.1 k1 (vs' := vs ++ us) (nd' := y.2.2 ++ is) (k4.append (hi.mono e4.n e4.t))
    refine ⟨a, q, vs, us, rfl, rfl, k3, upd_same, ?_, p2 G2 _ (e4.tr e5) .non ⟨A3, T5⟩ .non⟩
    have := of_decide_eq_true hsz2
    rw [k4.length, hi.length]
    simpa using this
theorem cr_popR (C : Cf0 X W sc N) (i j : Nat) (hN : N[i]? = some x) (hv : visB sc x = true) (ha : CE X W e f) (hs : starEach [e] X.env = (false, eval e X.env) :: starEach [] X.env := by rfl) (hd : (x == ("__debug__" : Str)) = false := by decide +kernel) (hcd : (x == ("__classdict__" : Str)) = false := by decide +kernel) (hline : (apos.endLine == cpos.line) = true := by rfl)
    (hbase : attributeBase (.Name x p) "pop" X.env (eval (.Name x p) X.env) = eval (.Name x p) X.env := by rfl) : CR X W j (.Call (.Attribute (.Name x p) "pop" apos) [e] [] cpos) (rPopR i j f) := fun Γ => by
  unfold rPopR
  cases h0 : nodeA Γ i j with
  | none => exact pe_imp (⟨fun _ _ _ _ _ _ z => z.elim⟩ : PE X _ (fun _ _ _ => False)) fun σ H Q ⟨G, S, q⟩ => q
  | some z0 =>
    refine pe_imp (pe_bm PySem.F.plainAttrs_list PySem.F.slot_list_pop PySem.F.type_list_pop mt_popAt (pa_ref (W := W) (p := p) C h0 hN hv hd hcd) (pa_cons (ha Γ) pa_nil hs) hbase (by rw [hs]; rfl) hline hs rfl) fun σ H Q ⟨G, S, pp⟩ => ⟨G, S, fun G1 H1 e1 v S1 hx => ?_⟩
    obtain ⟨A1, T1⟩ := id S1
    obtain ⟨a, ws, g1, g2, g3, g4⟩ := T1.node h0
    have hx : σ[i]? = some (some v) := hx
    rw [g2] at hx
    cases hx
    have pp : Pst X W G H σ ((f Γ).bind fun x => (R.ofO (intA x.1)).bind fun n => (R.ofO (nodeA x.2 i j)).bind fun z => (R.req (decide (-(2 ^ 63) ≤ n ∧ n < 2 ^ 63))).bind fun _ => (R.ofO (ixN z.2.2.length n)).bind fun at_ => match z.2.2[at_]? with
      | some (.r k) => .val (k, x.2.set j (.pool (z.2.1.set z.1 (z.2.2.eraseIdx at_))))
      | _ => .bad) _ := pp
    refine ⟨.inl ⟨rfl, ws, SqL.of g3⟩, G1, S1, (Pst.bind (Pst.ext pp e1)).imp fun r G2 H2 e2 p2 u S2 hu => ?_⟩
    obtain ⟨n, hn, p2⟩ := Pst.ofO p2
    obtain ⟨y, hy, p2⟩ := Pst.ofO p2
    obtain ⟨hc, p2⟩ := Pst.req p2
    obtain ⟨m, hm, p2⟩ := Pst.ofO p2
    have hc := of_decide_eq_true hc
    split at p2
    · rename_i k hk
      obtain ⟨A, T⟩ := id S2
      obtain ⟨b, vs, k1, k2, k3, k4⟩ := T.node hy
      rw [g2] at k2
      cases k2
      obtain ⟨w, w1, w2⟩ := k4.getR hk
      obtain ⟨T5, e5⟩ := T.mutNode (nodeA_ok hy).2.1 k1 (vs' := vs.eraseIdx m) (nd' := y.2.2.eraseIdx m) (k4.erase m)
      have hlt : j < r.2.length := (List.getElem?_eq_some_iff.mp (nodeA_ok hy).2.1).1
      exact ⟨a, vs, n, m, .ref w, rfl, by rw [intA_ok hn hu], k3, hc.1, hc.2, by rw [k4.length]; exact (ixN_seq hm).1, w1, p2 G2 _ e5 A w _ T5 (List.getElem?_set_self hlt) w2⟩
    · exact p2.elim
theorem ce_frzP (C : Cf0 X W sc N) (i j : Nat) (hN : N[i]? = some x) (hv : visB sc x = true) (hd : (x == ("__debug__" : Str)) = false := by decide +kernel) (hcd : (x == ("__classdict__" : Str)) = false := by decide +kernel) : CE X W (.Name x p) (dFrzP i j) := fun Γ => by
  unfold dFrzP
  cases h : nodeA Γ i j with
  | none => exact ev_bad
  | some z =>
    refine pe_imp (pa_ref (W := W) C h hN hv hd hcd) fun σ H Q ⟨G, S, q⟩ => ⟨G, S, fun G1 H1 e1 v S1 hx => ?_⟩
    obtain ⟨d, hu, q⟩ := Pst.ofO (show Pst X W G H σ ((R.ofO (unr z.2.1 100 z.1)).bind fun d => R.val (AV.d true d, Γ.set j .un)) _ from q)
    obtain ⟨A, T⟩ := id S1
    obtain ⟨a, vs, g1, g2, g3, g4⟩ := T.node h
    have hx : σ[i]? = some (some v) := hx
    rw [g2] at hx
    cases hx
    obtain ⟨G2, S2, e2, hN2⟩ := T.sink (nodeA_ok h).2.1
    exact q G2 H1 (e1.tr e2) _ S2 (unr_ok (T.sl j _ (nodeA_ok h).2.1).2 e2.n (fun p o hp ho => hN2 p o hp ho) 100 z.1 d a hu g1)
end
end PD
set_option Elab.async false
set_option linter.all false
set_option maxRecDepth 100000
set_option maxHeartbeats 4000000
set_option autoImplicit false
namespace PD
open PySem L2
section
variable {X : Cx} {W : WX} {sc : Scope} {N : List Str} {e : Expr} {es : List Expr} {apos cpos pos p p2 : Pos} {k : DA} {f : DF}
end
theorem TresOk.snoc {K : PySem.W.Frag} {G : Rg} {H : Hp} {v : V} {x : PyData} (hx : Dn K G H v x) : ∀ {vs : List V} {fp : List Addr} {ts : List Tre}, TresOk K G H vs fp ts → TresOk K G H (vs ++ [v]) fp (ts ++ [.d x])
  | _, _, _, .nil => .cons (f1 := []) (f2 := []) (.d hx) .nil (by simp)
  | _, _, _, .cons h a n => .cons h (TresOk.snoc hx a) n
theorem TresOk.length {K : PySem.W.Frag} {G : Rg} {H : Hp} : ∀ {vs : List V} {fp : List Addr} {ts : List Tre}, TresOk K G H vs fp ts → vs.length = ts.length
  | _, _, _, .nil => rfl
  | _, _, _, .cons _ a _ => by simp [TresOk.length a]
section
variable {X : Cx} {W : WX} {sc : Scope} {N : List Str} {e : Expr} {es : List Expr} {apos cpos pos ipos p p2 : Pos} {k : DA} {f : DF} {x : Str}
theorem at_natV {α : Type} {xs : List α} {c : Nat} {x : α} (h : xs[c]? = some x) : atI xs (c : Int) = some x := by
  have hl := (List.getElem?_eq_some_iff.mp h).1
  unfold atI ixN
  rw [if_pos (by omega), if_pos (by omega)]
  simpa using h
end
end PD
set_option Elab.async false
set_option linter.all false
set_option maxRecDepth 100000
set_option maxHeartbeats 4000000
set_option autoImplicit false
namespace PD
open PySem L2
section
variable {X : Cx} {W : WX} {sc : Scope} {N : List Str} {a : Expr} {pos p : Pos} {f : DF}
end
end PD
set_option Elab.async false
set_option linter.all false
set_option maxRecDepth 100000
set_option maxHeartbeats 4000000
set_option autoImplicit false
namespace PD
open PySem L2 RT
section
variable {X : Cx} {W : WX} {sc : Scope} {N : List Str} {e tg : Expr} {pos p : Pos} {f : DF}
end
end PD
set_option Elab.async false
set_option linter.all false
set_option maxRecDepth 100000
set_option maxHeartbeats 4000000
set_option autoImplicit false
namespace HT
open PySem PySem.Spec PyProof.Rows
section
variable {prog : Program} {w : World} {A : Around} {E : Value → Shared → Prop} {s : Shared}
end
end HT
namespace PD
open PySem PySem.Spec L2
open PyProof.Rows hiding St
section
variable {X : Cx} {W : WX} {sc : Scope} {N : List Str} {a : Expr} {p1 p2 p3 pos : Pos} {f : DF}
end
end PD
set_option Elab.async false
set_option linter.all false
set_option maxRecDepth 100000
set_option maxHeartbeats 4000000
set_option autoImplicit false
namespace PD
open PySem PySem.Spec L2
open PyProof.Rows hiding St
structure InsC (K : PySem.W.Frag) (c : Str) (fs : List Str) : Prop where
  cls : Cls K (He.ga K c)
  no : ∀ f ∈ fs, NoAttr K (He.ga K c) f
  mks : PySem.W.makesIn K (He.ga K c) = true
  kp : PySem.W.keepIn K (.ref (He.ga K c)) = true
def methB (K : PySem.W.Frag) (c m : Str) : Bool := decide (PySem.W.findIn K (.ref (He.ga K c)) m = some (some (.ref (He.fAd K (c, some m))))) && (PySem.W.isFn K (.ref (He.fAd K (c, some m))) && PySem.W.keepIn K (.ref (He.fAd K (c, some m))))
theorem methB_ok {K : PySem.W.Frag} {c m : Str} (h : methB K c m = true) : Meth K (He.ga K c) m (He.fAd K (c, some m)) := by
  unfold methB at h
  simp only [Bool.and_eq_true, decide_eq_true_eq] at h
  exact ⟨h.1, h.2.1, h.2.2⟩
section
variable {X : Cx} {W : WX} {sc : Scope} {N : List Str} {a b e o : Expr} {es : List Expr} {apos cpos pos p p2 : Pos} {k : DA} {f g : DF} {s : Stmt} {cl : List (Str × List Str)}
end
end PD
set_option Elab.async false
set_option linter.all false
set_option maxRecDepth 100000
set_option maxHeartbeats 4000000
set_option autoImplicit false
namespace PD
open PySem PySem.Spec L2
open PyProof.Rows hiding St
section
variable {X : Cx} {W : WX} {sc : Scope} {N : List Str} {a b e o : Expr} {es : List Expr} {apos cpos pos p p2 pos' tpos : Pos} {f g fe fi : DF} {s : Stmt} {cl : List (Str × List Str)} {x n : Str}
end
end PD
set_option Elab.async false
set_option linter.all false
set_option maxRecDepth 100000
set_option maxHeartbeats 4000000
set_option autoImplicit false
namespace PD
open PySem PySem.Spec L2
open PyProof.Rows hiding St
abbrev DK := List Sl → Option (Bool × PyData)
section
variable {X : Cx} {W : WX} {sc : Scope} {N : List Str} {a b e o : Expr} {es : List Expr} {apos cpos pos p p2 pos' tpos : Pos} {f g fe fi : DF} {s : Stmt} {cl : List (Str × List Str)} {x n : Str} {r : DK}
end
end PD
set_option Elab.async false
set_option linter.all false
set_option maxRecDepth 100000
set_option maxHeartbeats 4000000
set_option autoImplicit false
namespace PD
open PySem PySem.Spec L2
open PyProof.Rows hiding St
section
variable {X : Cx} {CX : CXT} {k : Nat} {f C : Addr} {fd : FuncData} {ps : List Str} {sp : Sp} {dvs : List V} {ds : List Value} {E : St → XK} {x m : Str} {p pos apos : Pos} {e o : Expr} {es : List Expr} {ta : TE} {t : TA}
end
def CleeM (X : Cx) (c mn : Str) (dvs : List V) (sp : Sp) : Prop :=
  ∃ (k : Nat) (f : Addr) (fd : FuncData) (ps : List Str) (ds : List Value), FnOk X.prog X.w X.K X.mg X.base (L2.CX X.prog X.w) k f fd ps sp ∧ Room k X.A ∧ Cls X.K (He.ga X.K c) ∧ Meth X.K (He.ga X.K c) mn f ∧ Binds X.K fd ps ds ∧ Vals dvs ds
def CleeI (X : Cx) (c : Str) (dvs : List V) (sp : Sp) : Prop :=
  ∃ (k : Nat) (f : Addr) (fd : FuncData) (ps : List Str) (ds : List Value), FnOk X.prog X.w X.K X.mg X.base (L2.CX X.prog X.w) k f fd ps sp ∧ Room (k + 1) X.A ∧ X.mg c = some (.ref (He.ga X.K c)) ∧ Mk X.K (He.ga X.K c) f ∧ Binds X.K fd ps ds ∧ Vals dvs ds
def GvM (P : Program) (w : World) (K : PySem.W.Frag) (mg : Str → Option Value) (base : Heap) (k : Nat) (c mn : Str) (dvs : List V) (sp : Sp) : Prop :=
  ∃ (f : Addr) (fd : FuncData) (ps : List Str) (ds : List Value), FnOk P w K mg base (L2.CX P w) k f fd ps sp ∧ Cls K (He.ga K c) ∧ Meth K (He.ga K c) mn f ∧ Binds K fd ps ds ∧ Vals dvs ds
def GvI (P : Program) (w : World) (K : PySem.W.Frag) (mg : Str → Option Value) (base : Heap) (k : Nat) (c : Str) (dvs : List V) (sp : Sp) : Prop :=
  ∃ (f : Addr) (fd : FuncData) (ps : List Str) (ds : List Value), FnOk P w K mg base (L2.CX P w) k f fd ps sp ∧ mg c = some (.ref (He.ga K c)) ∧ Mk K (He.ga K c) f ∧ Binds K fd ps ds ∧ Vals dvs ds
section
variable {P : Program} {w : World} {K : PySem.W.Frag} {mg : Str → Option Value} {base : Heap} {k k' : Nat} {c mn : Str} {dvs : List V} {sp : Sp} {X : Cx} {W : WX} {scope : Scope} {N fs : List Str} {fd : FuncData} {ps : List Str} {ds : List Value} {m : List Ar → R (Rs × List Sl)}
theorem GvM.of (I : InsC K c fs) (hm : methB K c mn = true) (ok : FnOk P w K mg base (L2.CX P w) k (He.fAd K (c, some mn)) fd ps sp) (b : Binds K fd ps ds) (hv : Vals dvs ds) : GvM P w K mg base k c mn dvs sp :=
  ⟨_, fd, ps, ds, ok, I.cls, methB_ok hm, b, hv⟩
theorem GvI.of (I : InsC K c fs) (hm : methB K c "__init__" = true) (hg : mg c = some (.ref (He.ga K c))) (ok : FnOk P w K mg base (L2.CX P w) k (He.fAd K (c, some "__init__")) fd ps sp) (b : Binds K fd ps ds) (hv : Vals dvs ds) : GvI P w K mg base k c dvs sp :=
  ⟨_, fd, ps, ds, ok, hg, ⟨I.mks, (methB_ok hm).at_, (methB_ok hm).fn, I.kp⟩, b, hv⟩
theorem GvM.u (g : GvM P w K mg base k c mn dvs (spU K mg m)) (h : Here X W P w K mg base scope N k') (hk : k ≤ k') : CleeM X c mn dvs (spU X.K X.mg m) := by
  obtain ⟨f, fd, ps, ds, h1, h2, h3, h4, h5⟩ := g
  have e1 := h.prog
  have e2 := h.w
  have e3 := h.K
  have e4 := h.mg
  have e5 := h.base
  subst e1 e2 e3 e4 e5
  exact ⟨k, f, fd, ps, ds, h1, h.room.mono hk, h2, h3, h4, h5⟩
theorem GvI.u (g : GvI P w K mg base k c dvs (spU K mg m)) (h : Here X W P w K mg base scope N k') (hk : k + 1 ≤ k') : CleeI X c dvs (spU X.K X.mg m) := by
  obtain ⟨f, fd, ps, ds, h1, h2, h3, h4, h5⟩ := g
  have e1 := h.prog
  have e2 := h.w
  have e3 := h.K
  have e4 := h.mg
  have e5 := h.base
  subst e1 e2 e3 e4 e5
  exact ⟨k, f, fd, ps, ds, h1, h.room.mono hk, h2, h3, h4, h5⟩
theorem CleeM.tr (h : CleeM X c mn dvs sp) {pn : List (Addr × Obj)} {xe : Value → Shared → Prop} : CleeM (X.tr pn xe) c mn dvs sp := h
theorem CleeI.tr (h : CleeI X c dvs sp) {pn : List (Addr × Obj)} {xe : Value → Shared → Prop} : CleeI (X.tr pn xe) c dvs sp := h
theorem CleeM.blk (h : CleeM X c mn dvs sp) {s : Shared} {H : Hp} {scope : Scope} {ce : Env} {fp : List Addr} : CleeM (X.blk s H scope ce fp) c mn dvs sp := h
theorem CleeI.blk (h : CleeI X c dvs sp) {s : Shared} {H : Hp} {scope : Scope} {ce : Env} {fp : List Addr} : CleeI (X.blk s H scope ce fp) c dvs sp := h
end
section
variable {X : Cx} {W : WX} {sc : Scope} {N : List Str} {e o : Expr} {es : List Expr} {apos p pos : Pos} {x c n : Str} {fe : DF} {k : DA} {dvs : List V} {dds : List PyData} {m : List Ar → R (Rs × List Sl)} {ms : List Bool}
end
end PD
set_option Elab.async false
set_option linter.all false
set_option maxRecDepth 100000
set_option maxHeartbeats 4000000
set_option autoImplicit false
namespace PD
open PySem PySem.Spec L2 Srt SrtO
open PySem.W (alike AllAlike Sortable dataLe EachIs)
open PyProof.Rows hiding St
section
variable {P : Program} {w : World} {A : Around} {E : Value → Shared → Prop} {s : Shared}
end
section
variable {X : Cx} {W : WX} {sc : Scope} {N : List Str} {a e : Expr} {p pos : Pos} {f : DF}
end
end PD
set_option Elab.async false
set_option linter.all false
set_option maxRecDepth 100000
set_option maxHeartbeats 4000000
set_option autoImplicit false
namespace PD
open PySem L2
section
variable {X : Cx} {W : WX} {sc : Scope} {N : List Str} {e : Expr} {pos : Pos} {f : DX}
end
end PD
set_option Elab.async false
set_option linter.all false
set_option maxRecDepth 100000
set_option maxHeartbeats 4000000
set_option autoImplicit false
namespace SrtK
open PySem PySem.W PySem.Calls PyProof.Rows
section
variable {prog : Program} {w : World} {A : Around} {E : Value → Shared → Prop} {a : Addr} {vs : List Value} {kz : List Int} {f : Value} {P : PySem.Fin → Shared → Prop}
end
end SrtK
namespace PD
open PySem L2
section
open PySem.W PySem.Calls PyProof.Rows
variable {X : Cx} {pins : List (Addr × Obj)} {σ : L2.St} {H : Hp} {s : Shared} {Q : VK}
end
end PD
namespace PD
open PySem L2
def CleeS (X : Cx) (x : Str) (sp : Sp) : Prop :=
  ∃ (k : Nat) (f : Addr) (fd : FuncData) (ps : List Str), FnOk X.prog X.w X.K X.mg X.base (L2.CX X.prog X.w) k f fd ps sp ∧ Room (k + 2) X.A ∧ X.mg x = some (.ref f) ∧ Binds X.K fd ps []
section
variable {X : Cx} {W : WX} {sc : Scope} {N : List Str} {e : Expr} {p py pos kpos : Pos} {f : DF} {y : Str} {m : List Ar → R (Rs × List Sl)}
end
theorem Gv.key {P : Program} {w : World} {K : PySem.W.Frag} {mg : Str → Option Value} {base : Heap} {k k' : Nat} {x : Str} {m : List Ar → R (Rs × List Sl)} {scope : Scope} {X : Cx} {W : WX} {N : List Str} (g : Gv P w K mg base k x [] (spU K mg m)) (h : Here X W P w K mg base scope N k') (hk : k + 2 ≤ k') : CleeS X x (spU X.K X.mg m) := by
  obtain ⟨f, fd, ps, ds, g1, g2, g3, g4, g5⟩ := g
  cases g5
  rw [h.K, h.mg]
  refine ⟨k, f, fd, ps, ?_, h.room.mono hk, ?_, ?_⟩
  · rw [h.prog, h.w, h.K, h.mg, h.base]; exact g1
  · rw [h.mg]; exact g2
  · rw [h.K]; exact g4
end PD
set_option Elab.async false
set_option linter.all false
set_option maxRecDepth 100000
set_option maxHeartbeats 4000000
set_option autoImplicit false
namespace PD
open PySem L2
section
variable {X : Cx} {W : WX} {sc : Scope} {N : List Str} {e e1 : Expr} {p pos : Pos} {f : DF} {r : DK} {cl : List (Str × List Str)}
end
end PD
set_option Elab.async false
set_option linter.all false
set_option maxRecDepth 100000
set_option maxHeartbeats 4000000
set_option autoImplicit false
namespace PD
open PySem PySem.Spec L2
open PyProof.Rows hiding St
theorem TresOk.split {K : PySem.W.Frag} {G : Rg} {H : Hp} {t : Tre} : ∀ (ts : List Tre) {vs : List V} {fp : List Addr}, TresOk K G H vs fp (ts ++ [t]) → ∃ vs1 v f1 f2, vs = vs1 ++ [v] ∧ TresOk K G H vs1 f1 ts ∧ TreOk K G H v f2 t ∧ (∀ a, a ∈ fp ↔ a ∈ f1 ∨ a ∈ f2) ∧ ∀ p ∈ f1, p ∉ f2
  | [], vs, fp, h => by
    have h : TresOk K G H vs fp [t] := h
    cases h with
    | @cons v vs2 f1 f2 _ _ h1 a n =>
      cases a
      exact ⟨[], v, [], f1, rfl, .nil, h1, fun a => by simp, fun p hp => by cases hp⟩
  | t1 :: ts, vs, fp, h => by
    have h : TresOk K G H vs fp (t1 :: (ts ++ [t])) := h
    cases h with
    | @cons v vs2 f1 f2 _ _ h1 a n =>
      obtain ⟨vs1, w, g1, g2, rfl, b1, b2, b3, b4⟩ := TresOk.split ts a
      refine ⟨v :: vs1, w, f1 ++ g1, g2, rfl, .cons h1 b1 (fun p hp z => n p hp ((b3 p).mpr (.inl z))), b2, fun a => ?_, fun p hp => ?_⟩
      · rw [List.mem_append, List.mem_append, b3, or_assoc]
      · rcases List.mem_append.mp hp with z | z
        · exact fun q => n p z ((b3 p).mpr (.inr q))
        · exact b4 p z
section
variable {X : Cx} {W : WX} {sc : Scope} {N : List Str} {e tg : Expr} {f : DX} {apos cpos : Pos}
end
end PD
set_option Elab.async false
set_option linter.all false
set_option maxRecDepth 100000
set_option maxHeartbeats 4000000
set_option autoImplicit false
namespace PD
open PySem PySem.Spec L2 Srt SrtO
open PySem.W
open PyProof.Rows hiding St
section
variable {prog : Program} {w : World} {A : Around} {s : Shared}
variable {β : Type} {vs : List Value} {bs : List β} {enc : β → PyData} {R : Value → β → Prop} {E : Value → Shared → Prop}
end
section
variable {X : Cx} {W : WX} {sc : Scope} {N : List Str} {a e : Expr} {p pos : Pos} {k : DA}
end
end PD
set_option Elab.async false
set_option linter.all false
set_option maxRecDepth 100000
set_option maxHeartbeats 4000000
set_option autoImplicit false
namespace PD
open PySem PySem.Spec L2
open PyProof.Rows hiding St
section
variable {X : Cx} {W : WX} {a b : Expr} {pos : Pos} {f : DN} {g : DF}
end
end PD
set_option Elab.async false
set_option linter.all false
set_option maxRecDepth 100000
set_option maxHeartbeats 4000000
set_option autoImplicit false
namespace PD
open PySem L2
section
variable {X : Cx} {W : WX} {sc : Scope} {N : List Str} {a b c e : Expr} {es : List Expr} {pos p : Pos} {f : DF} {x : Str} {dvs : List V} {dds : List PyData} {m : List Ar → R (Rs × List Sl)} {kws : List Keyword} {ks : List Str} {n : Nat} {pm : List Nat} {k kk : DA}
end
end PD
set_option Elab.async false
set_option linter.all false
set_option maxRecDepth 100000
set_option maxHeartbeats 4000000
set_option autoImplicit false
namespace PD
open PySem PySem.Spec L2
open PyProof.Rows hiding St
section
variable {X : Cx} {pins : List (Addr × Obj)} {σ : St} {H : Hp} {s : Shared} {a b : Addr} {r : Value} {d : V} {k : NestedKey} {A : Around} {E : Value → Shared → Prop} {rs : List (NestedKey × Addr × V)}
end
inductive MnRel (K : PySem.W.Frag) (G : Rg) (H : Hp) : List (NestedKey × Addr × V) → List Addr → List (PyData × List PyData) → Prop
  | nil : MnRel K G H [] [] []
  | cons {r : NestedKey × Addr × V} {rs : List (NestedKey × Addr × V)} {q : Addr} {qs : List Addr} {k : PyData} {xs : List V} {ds : List PyData} {l : List (PyData × List PyData)} :
      nkD k = some r.1 → r.1.depth ≤ 8 → Dn K G H (.ref r.2.1) k → r.2.2 = .ref q → H q = some (.lst xs) → DnA K G H xs ds → MnRel K G H rs qs l → MnRel K G H (r :: rs) (q :: qs) ((k, ds) :: l)
section
variable {K : PySem.W.Frag} {G G' : Rg} {H H' : Hp} {rs : List (NestedKey × Addr × V)} {qs : List Addr} {l : List (PyData × List PyData)}
theorem MnRel.mono (g : RgLe G G') (t : TupLe H H') (h : MnRel K G H rs qs l) : (∀ q ∈ qs, H' q = H q) → MnRel K G' H' rs qs l := by
  induction h with
  | nil => exact fun _ => .nil
  | cons h1 h2 h3 h4 h5 h6 _ ih => exact fun k => .cons h1 h2 (h3.mono g t) h4 (by rw [k _ List.mem_cons_self]; exact h5) (h6.mono g t) (ih fun q hq => k q (List.mem_cons_of_mem _ hq))
theorem MnRel.nt (h : MnRel K G H rs qs l) : ∀ q ∈ qs, ∃ xs, H q = some (.lst xs) := by
  induction h with
  | nil => intro q hq; cases hq
  | cons h1 h2 h3 h4 h5 h6 _ ih =>
    intro q hq
    rcases List.mem_cons.mp hq with rfl | hq
    · exact ⟨_, h5⟩
    · exact ih q hq
theorem MnRel.len (h : MnRel K G H rs qs l) : rs.length = l.length := by
  induction h with
  | nil => rfl
  | cons _ _ _ _ _ _ _ ih => rw [List.length_cons, List.length_cons, ih]
theorem MnRel.ks (h : MnRel K G H rs qs l) : ∀ r ∈ rs, ∃ G' k', Dn K G' H (.ref r.2.1) k' ∧ nkD k' = some r.1 ∧ r.1.depth ≤ 8 := by
  induction h with
  | nil => intro r hr; cases hr
  | cons h1 h2 h3 _ _ _ _ ih =>
    intro r hr
    rcases List.mem_cons.mp hr with rfl | hr
    · exact ⟨_, _, h3, h1, h2⟩
    · exact ih r hr
end
theorem MnRel.snoc {K : PySem.W.Frag} {G : Rg} {H : Hp} {rs : List (NestedKey × Addr × V)} {qs : List Addr} {l : List (PyData × List PyData)} (h : MnRel K G H rs qs l) {kk : NestedKey} {b q : Addr} {k : PyData} {xs : List V} {ds : List PyData}
    (h1 : nkD k = some kk) (h2 : kk.depth ≤ 8) (h3 : Dn K G H (.ref b) k) (h5 : H q = some (.lst xs)) (h6 : DnA K G H xs ds) : MnRel K G H (rs ++ [(kk, b, .ref q)]) (qs ++ [q]) (l ++ [(k, ds)]) := by
  induction h with
  | nil => exact .cons h1 h2 h3 rfl h5 h6 .nil
  | cons a1 a2 a3 a4 a5 a6 _ ih => exact .cons a1 a2 a3 a4 a5 a6 ih
section
variable {X : Cx} {W : WX} {sc : Scope} {N : List Str} {x y : Str} {e : Expr} {pos lpos p1 p2 a1 a2 c1 c2 : Pos} {fk : DF}
end
theorem MnRel.nd {K : PySem.W.Frag} {G G' : Rg} {H : Hp} {rs : List (NestedKey × Addr × V)} {qs : List Addr} {l : List (PyData × List PyData)} (h : MnRel K G H rs qs l) (g : RgLe G G') : (∀ q ∈ qs, ∀ o, H q = some o → G' q o) → NdRel K G' H rs (mulD l) := by
  induction h with
  | nil => exact fun _ => .nil
  | cons h1 h2 h3 h4 h5 h6 _ ih => exact fun k => .cons h1 h2 (h3.mono g (TupLe.rf _)) (by rw [h4]; exact .lst (.inl (k _ List.mem_cons_self _ h5)) (h6.mono g (TupLe.rf _))) (ih fun q hq => k q (List.mem_cons_of_mem _ hq))
section
variable {X : Cx} {W : WX} {sc : Scope} {N : List Str} {ss : List Stmt} {g : DS}
end
section
variable {X : Cx} {W : WX} {sc : Scope} {N : List Str} {e tg : Expr} {f : DF} {apos cpos : Pos}
end
end PD
set_option Elab.async false
set_option linter.all false
set_option maxRecDepth 100000
set_option maxHeartbeats 4000000
set_option autoImplicit false
namespace PD
open PySem PySem.Spec L2
open PyProof.Rows hiding St
def stp {α : Type} (xs : List α) (k : Int) : List α := pickP (sliceRange 0 (xs.length : Nat) k) xs
theorem DnA.pickP {K : PySem.W.Frag} {G : Rg} {H : Hp} {vs : List V} {ds : List PyData} (h : DnA K G H vs ds) (pm : List Nat) : DnA K G H (pickP pm vs) (pickP pm ds) := by
  induction pm with
  | nil => exact .nil
  | cons i r ih =>
    unfold PD.pickP at ih ⊢
    rw [List.filterMap_cons, List.filterMap_cons]
    cases hv : vs[i]? with
    | none =>
      have : ds[i]? = none := by
        rw [List.getElem?_eq_none_iff] at hv ⊢
        rw [← h.length]; exact hv
      rw [this]; exact ih
    | some v =>
      obtain ⟨d, h1, h2⟩ := h.get hv
      rw [h1]
      exact .cons h2 ih
section
variable {X : Cx}
end
section
variable {X : Cx} {W : WX} {sc : Scope} {N : List Str} {a e : Expr} {f : DF} {fs : DO} {p3 pos : Pos}
end
end PD
set_option Elab.async false
set_option linter.all false
set_option maxRecDepth 100000
set_option maxHeartbeats 4000000
set_option autoImplicit false
namespace PD
open PySem PySem.Spec L2
open PyProof.Rows hiding St
section
variable {X : Cx} {W : WX} {sc : Scope} {N : List Str} {a b e : Expr} {f g : DF} {p2 pos apos : Pos}
end
end PD
set_option Elab.async false
set_option linter.all false
set_option maxRecDepth 100000
set_option maxHeartbeats 4000000
set_option autoImplicit false
namespace PD
open PySem PySem.Spec L2
open PyProof.Rows hiding St
section
variable {X : Cx} {W : WX} {sc : Scope} {N : List Str} {a b e tg o : Expr} {es : List Expr} {f g : DF} {p p2 pos apos cpos : Pos} {k : DA} {x : Str} {vs : List V} {ds : List PyData}
end
end PD
set_option Elab.async false
set_option linter.all false
set_option maxRecDepth 100000
set_option maxHeartbeats 4000000
set_option autoImplicit false
namespace PD
open PySem L2
section
variable {X : Cx} {W : WX} {sc : Scope} {N : List Str} {b b1 b2 e : Expr} {pos : Pos}
end
end PD
set_option Elab.async false
set_option linter.all false
set_option maxRecDepth 100000
set_option maxHeartbeats 4000000
set_option autoImplicit false
namespace PD
open PySem L2
def pinE (E : Hp) : List (Addr × List V) → Hp
  | [] => E
  | z :: l => upd (pinE E l) z.1 (.lst z.2)
theorem pinE_out {E : Hp} : ∀ {l : List (Addr × List V)} {a : Addr}, a ∉ l.map (·.1) → pinE E l a = E a
  | [], _, _ => rfl
  | z :: l, a, h => by
    have h : a ≠ z.1 ∧ a ∉ l.map (·.1) := ⟨fun e => h (List.mem_cons.mpr (.inl e)), fun e => h (List.mem_cons.mpr (.inr e))⟩
    show upd (pinE E l) z.1 _ a = _
    rw [upd_ne h.1, pinE_out h.2]
theorem pinE_in {E : Hp} : ∀ {l : List (Addr × List V)} {z : Addr × List V}, (l.map (·.1)).Nodup → z ∈ l → pinE E l z.1 = some (.lst z.2)
  | y :: l, z, hn, h => by
    have hn := List.nodup_cons.mp (show (y.1 :: l.map (·.1)).Nodup from hn)
    show upd (pinE E l) y.1 _ z.1 = _
    rcases List.mem_cons.mp h with rfl | h
    · exact upd_same
    · rw [upd_ne (fun e => hn.1 (by rw [← e]; exact List.mem_map.mpr ⟨z, h, rfl⟩)), pinE_in hn.2 h]
def delL (H : Hp) : List (Addr × List V) → Hp
  | [] => H
  | z :: l => delL (PD.del H z.1) l
theorem delL_out : ∀ {l : List (Addr × List V)} {H : Hp} {a : Addr}, a ∉ l.map (·.1) → delL H l a = H a
  | [], _, _, _ => rfl
  | z :: l, H, a, h => by
    have h : a ≠ z.1 ∧ a ∉ l.map (·.1) := ⟨fun e => h (List.mem_cons.mpr (.inl e)), fun e => h (List.mem_cons.mpr (.inr e))⟩
    show delL (PD.del H z.1) l a = _
    rw [delL_out h.2, del_ne h.1]
theorem delL_in : ∀ {l : List (Addr × List V)} {H : Hp} {a : Addr}, a ∈ l.map (·.1) → delL H l a = none
  | z :: l, H, a, h => by
    show delL (PD.del H z.1) l a = none
    by_cases q : a ∈ l.map (·.1)
    · exact delL_in q
    · rcases List.mem_cons.mp (show a ∈ z.1 :: l.map (·.1) from h) with rfl | h
      · rw [delL_out q, del_same]
      · exact absurd h q
theorem Sta.unpinL {K : PySem.W.Frag} {σ : St} {Γ : List Sl} {E0 : Hp} {I : Nat → Option V} : ∀ {l : List (Addr × List V)} {G : Gh} {H : Hp}, Sta K G H σ Γ → G.E = pinE E0 l → G.I = I → (l.map (·.1)).Nodup → (∀ z ∈ l, E0 z.1 = none ∧ ∀ i, I i ≠ some (.ref z.1)) → Sta K ⟨G.H0, G.P, G.I, G.N, E0⟩ (delL H l) σ Γ ∧ TupLe H (delL H l) ∧ ∀ z ∈ l, H z.1 = some (.lst z.2)
  | [], G, H, S, hE, hI, _, _ => by
    have : G = ⟨G.H0, G.P, G.I, G.N, E0⟩ := by
      obtain ⟨a, b, c, d, e⟩ := G
      have hE : e = E0 := hE
      rw [hE]
    refine ⟨?_, TupLe.rf _, fun z hz => by cases hz⟩
    show Sta K ⟨G.H0, G.P, G.I, G.N, E0⟩ H σ Γ
    rw [← this]
    exact S
  | z :: l, G, H, S, hE, hI, hn, h0 => by
    have hn := List.nodup_cons.mp (show (z.1 :: l.map (·.1)).Nodup from hn)
    obtain ⟨e0, i0⟩ := h0 z (by simp)
    obtain ⟨S7, hz, t7⟩ := S.unpin (D := z.1) (o := .lst z.2) (E0 := pinE E0 l) hE (by rw [pinE_out hn.1]; exact e0) (fun _ h => by cases h) (fun _ _ h => by cases h) (fun i => by rw [hI]; exact i0 i)
    obtain ⟨S8, t8, k8⟩ := Sta.unpinL (l := l) (I := I) S7 rfl hI hn.2 fun y hy => h0 y (by simp [hy])
    refine ⟨S8, t7.tr t8, fun y hy => ?_⟩
    rcases List.mem_cons.mp hy with rfl | hy
    · exact hz
    · have := k8 y hy
      rwa [del_ne (fun e => hn.1 (by rw [← e]; exact List.mem_map.mpr ⟨y, hy, rfl⟩))] at this
theorem tres_dna' {K : PySem.W.Frag} {G : Rg} {H : Hp} : ∀ {vs : List V} {ds : List PyData}, DnA K G H vs ds → TresOk K G H vs [] (ds.map Tre.d)
  | _, _, .nil => .nil
  | _, _, .cons h a => .cons (f1 := []) (f2 := []) (.d h) (tres_dna' a) (by simp)
def RowsAt (K : PySem.W.Frag) (G : Rg) (H : Hp) : List (Addr × List V) → List (List PyData) → Prop
  | [], [] => True
  | z :: l, ds :: dss => DnA K G H z.2 ds ∧ RowsAt K G H l dss
  | _, _ => False
theorem RowsAt.mono {K : PySem.W.Frag} {G G' : Rg} {H H' : Hp} (g : RgLe G G') (t : TupLe H H') : ∀ {l : List (Addr × List V)} {dss : List (List PyData)}, RowsAt K G H l dss → RowsAt K G' H' l dss
  | [], [], _ => trivial
  | _ :: _, _ :: _, h => ⟨h.1.mono g t, RowsAt.mono g t h.2⟩
  | [], _ :: _, h => h.elim
  | _ :: _, [], h => h.elim
theorem RowsAt.len {K : PySem.W.Frag} {G : Rg} {H : Hp} : ∀ {l : List (Addr × List V)} {dss : List (List PyData)}, RowsAt K G H l dss → l.length = dss.length
  | [], [], _ => rfl
  | _ :: _, _ :: _, h => by simp [RowsAt.len h.2]
  | [], _ :: _, h => h.elim
  | _ :: _, [], h => h.elim
theorem RowsAt.tres {K : PySem.W.Frag} {G : Rg} {H : Hp} : ∀ {l : List (Addr × List V)} {dss : List (List PyData)}, RowsAt K G H l dss → (l.map (·.1)).Nodup → (∀ z ∈ l, H z.1 = some (.lst z.2)) → TresOk K G H (l.map fun z => V.ref z.1) (l.map (·.1)) (dss.map fun ds => .lst (ds.map Tre.d))
  | [], [], _, _, _ => .nil
  | z :: l, ds :: dss, h, hn, hH => by
    have hn := List.nodup_cons.mp (show (z.1 :: l.map (·.1)).Nodup from hn)
    exact .cons (f1 := [z.1]) (f2 := l.map (·.1)) (.lst (hH z (by simp)) (tres_dna' h.1) (by simp)) (RowsAt.tres h.2 hn.2 fun y hy => hH y (by simp [hy])) (fun p hp => by rw [List.mem_singleton.mp hp]; exact hn.1)
  | [], _ :: _, h, _, _ => h.elim
  | _ :: _, [], h, _, _ => h.elim
theorem RowsAt.snoc {K : PySem.W.Frag} {G : Rg} {H : Hp} {z : Addr × List V} {ds : List PyData} (hz : DnA K G H z.2 ds) : ∀ {l : List (Addr × List V)} {dss : List (List PyData)}, RowsAt K G H l dss → RowsAt K G H (l ++ [z]) (dss ++ [ds])
  | [], [], _ => ⟨hz, trivial⟩
  | _ :: _, _ :: _, h => ⟨h.1, RowsAt.snoc hz h.2⟩
  | [], _ :: _, h => h.elim
  | _ :: _, [], h => h.elim
section
variable {X : Cx} {W : WX} {sc : Scope} {N : List Str} {Γ : List Sl} {tg iter elt : Expr} {scope : Scope} {own : List (Str × Nat)} {pos : Pos} {it : DI} {g : DG} {e : DN} {ts : List Nat}
end
end PD
set_option Elab.async false
set_option linter.all false
set_option maxRecDepth 100000
set_option maxHeartbeats 4000000
set_option autoImplicit false
namespace PD
open PySem L2
section
variable {X : Cx} {W : WX} {sc : Scope} {N : List Str} {tg iter elt a b e : Expr} {scope : Scope} {own : List (Str × Nat)} {pos apos cpos p p2 : Pos} {it : DI} {g : DG} {f : DF} {x y : Str} {ts : List Nat}
structure CompT (X : Cx) (W : WX) (sc : Scope) (N : List Str) (tg iter elt : Expr) (scope : Scope) (own : List (Str × Nat)) (ts : List Nat) (g : DG) (it : DI) (e : DN) : Prop where
  hin : CI X W tg iter it
  ok : blkC N sc scope own = true
  hg : ∀ (s : Shared) (H : Hp) (c : Addr) (cl : List (Str × Addr)) (fp : List Addr), CG (X.blk s H scope (compEnvC scope cl c X.env) fp) tg ts g
  he : ∀ (s : Shared) (H : Hp) (c : Addr) (cl : List (Str × Addr)) (fp : List Addr), CN (X.blk s H scope (compEnvC scope cl c X.env) fp) WF elt e
  hts : ∀ j ∈ ts, j ∈ own.map (·.2)
  hs : ∀ x, foldedSetIterable iter X.env x = pure x
end
end PD
set_option Elab.async false
set_option linter.all false
set_option maxRecDepth 100000
set_option maxHeartbeats 4000000
set_option autoImplicit false
namespace PD
open PySem L2
section
variable {X : Cx} {W : WX} {sc : Scope} {N : List Str} {x y : Str}
end
end PD
set_option Elab.async false
set_option linter.all false
set_option maxRecDepth 100000
set_option maxHeartbeats 4000000
set_option autoImplicit false
namespace MinD
open PySem PySem.W PySem.Calls PyProof.Rows
section
variable {prog : Program} {w : World} {A : Around} {R : Result → Shared → Prop} {it B : Addr} {ft wt : List Addr} {len : Nat} {Pv : Nat → Value → Prop} {Tn : Nat → Heap → Prop} {kw : List (Str × Value)}
abbrev two (v : Value) (c : Nat) : Obj := { cls := .type "list", dict := none, data := .seq #[v, v] c, slots := #[] }
theorem nm : (toString "min" ++ toString ".loop" : String) = "min.loop" := by decide
theorem turns (K : Walks prog w A.in1 it ft wt len Pv Tn) (lt : Nat → Nat → Bool) (cmp : CmpOf prog w A.in1 .Lt Pv lt) (nb : B ∉ ft) (m : Nat) :
    ∀ (j : Nat) (s : Shared) (v : Value) (c : Nat), len - (j + 1) = m → j + 1 ≤ len → Tn (j + 1) s.heap → Pv (argBest lt j) v → s.heap.get? B = some (two v c) →
      (∀ u h' tk, Pv (argBest lt (len - 1)) u → (∀ b o, b ∉ wt → b ≠ B → s.heap.get? b = some o → h'.get? b = some o) → R (.ok (.ret u)) { s with heap := h', toks := tk }) → codeAny (model prog w) A (.builtin "min.loop" ⟨[.ref it, .none, .ref B], kw⟩) R s := by
  have nw : B ∉ wt := fun z => nb (K.sub _ z)
  induction m with
  | zero =>
    intro j s v c e1 e2 tn pv hb fin
    obtain rfl : j + 1 = len := by omega
    refine codeAny_builtin F.entry_min_loop ?_; rw [Around.under_plainId F.plain_min_loop _]
    refine wpAny_bind (m := seqItems? (.ref B)) (wpAny_seqItems hb rfl ?_)
    refine wpAny_bind (wpAny_tryCatch (K.done s _ _ tn fun g tk keep => ?_))
    have hb' := keep B _ nw hb
    refine wpAny_bind (m := updateSeq B (fun _ => #[])) (wpAny_updateSeq hb' rfl (wpAny_bind (wpAny_letGo (wpAny_pure ?_))))
    exact fin v _ tk pv fun b o x y z => (Heap.get?_update_other _ _ (Ne.symm y)).trans (keep b o x z)
  | succ m ih =>
    intro j s v c e1 e2 tn pv hb fin
    have lt1 : j + 1 < len := by omega
    refine codeAny_builtin F.entry_min_loop ?_; rw [Around.under_plainId F.plain_min_loop _]
    refine wpAny_bind (m := seqItems? (.ref B)) (wpAny_seqItems hb rfl ?_)
    refine wpAny_bind (wpAny_tryCatch (K.item (j + 1) s _ _ lt1 tn fun u g tk pu tn' keep => ?_))
    have hb' := keep B _ nw hb
    refine wpAny_bind (m := tryCatch (holding [u, u] (richCompare .Lt u v >>= _)) _) (wpAny_tryCatch (wpAny_holding (wpAny_bind (cmp (j + 1) (argBest lt j) u v _ _ _ pu pv ?_))))
    refine wpAny_bind (wpAny_holding (wpAny_truthy_bool (wpAny_bind (wpAny_letGo (wpAny_pure ?_)))))
    cases z : lt (j + 1) (argBest lt j) with
    | false =>
      simp only [Bool.false_eq_true, if_false]
      refine wpAny_bind (wpAny_letGo ?_); rw [nm]
      refine wpAny_pure ⟨plainId_quiet F.plain_min_loop _, ih (j + 1) _ v c (by omega) lt1 tn' (by simp only [argBest, z, Bool.false_eq_true, if_false]; exact pv) hb' fun u' h2 tk2 pu' keep2 => fin u' h2 tk2 pu' fun b o x y q => keep2 b o x y (keep b o x q)⟩
    | true =>
      simp only [if_true]
      refine wpAny_bind (wpAny_updateSeq hb' rfl (wpAny_bind (wpAny_letGo ?_))); rw [nm]
      refine wpAny_pure ⟨plainId_quiet F.plain_min_loop _, ih (j + 1) _ u _ (by omega) lt1 (K.frame _ _ _ tn' fun b x o e => (Heap.get?_update_other _ _ (fun h : B = b => nb (by rw [h]; exact x))).trans e) (by simp only [argBest, z, if_true]; exact pu) (Heap.get?_update_self _ hb' rfl) fun u' h2 tk2 pu' keep2 => ?_⟩
      exact fin u' h2 tk2 pu' fun b o x y q => keep2 b o x y ((Heap.get?_update_other _ _ (Ne.symm y)).trans (keep b o x q))
theorem start (K : Walks prog w A.in1 it ft wt len Pv Tn) (lt : Nat → Nat → Bool) (cmp : CmpOf prog w A.in1 .Lt Pv lt) (nb : B ∉ ft) {d : Value} {nme : Str} {s : Shared} {c : Nat} (tn : Tn 0 s.heap) (hb : s.heap.get? B = some { cls := .type "list", dict := none, data := .seq #[] c, slots := #[] })
    (fin0 : len = 0 → ∀ h' tk, (∀ b o, b ∉ wt → b ≠ B → s.heap.get? b = some o → h'.get? b = some o) → R (.ok (.ret d)) { s with heap := h', toks := tk })
    (fin : 0 < len → ∀ u h' tk, Pv (argBest lt (len - 1)) u → (∀ b o, b ∉ wt → b ≠ B → s.heap.get? b = some o → h'.get? b = some o) → R (.ok (.ret u)) { s with heap := h', toks := tk }) : codeAny (model prog w) A (.builtin "min.loop" ⟨[.ref it, .none, .ref B], [(nme, d)]⟩) R s := by
  have nw : B ∉ wt := fun z => nb (K.sub _ z)
  refine codeAny_builtin F.entry_min_loop ?_; rw [Around.under_plainId F.plain_min_loop _]
  refine wpAny_bind (m := seqItems? (.ref B)) (wpAny_seqItems hb rfl ?_)
  by_cases h0 : len = 0
  · subst h0
    refine wpAny_bind (wpAny_tryCatch (K.done s _ _ tn fun g tk keep => ?_))
    refine wpAny_bind (wpAny_rule ?_)
    exact wpAny_pure (fin0 rfl g tk fun b o x _ z => keep b o x z)
  · refine wpAny_bind (wpAny_tryCatch (K.item 0 s _ _ (by omega) tn fun u g tk pu tn' keep => ?_))
    have hb' := keep B _ nw hb
    refine wpAny_bind (m := updateSeq B (fun _ => #[u, u])) (wpAny_updateSeq hb' rfl ?_); rw [nm]
    refine wpAny_pure ⟨plainId_quiet F.plain_min_loop _, turns K lt cmp nb _ 0 _ u _ rfl (by omega) (K.frame _ _ _ tn' fun b x o e => (Heap.get?_update_other _ _ (fun h : B = b => nb (by rw [h]; exact x))).trans e) pu (Heap.get?_update_self _ hb' rfl) fun u' h2 tk2 pu' keep2 => ?_⟩
    exact fin (by omega) u' h2 tk2 pu' fun b o x y q => keep2 b o x y ((Heap.get?_update_other _ _ (Ne.symm y)).trans (keep b o x q))
end
section
variable {prog : Program} {w : World} {A : Around} {E : Value → Shared → Prop} {s : Shared} {l : Addr} {xs : Array (Int × Tok)}
end
end MinD
namespace PD
open PySem L2 PySem.W PySem.Calls
open PyProof.Rows hiding St
section
variable {X : Cx} {W : WX} {sc : Scope} {N : List Str} {e e2 : Expr} {p pos kpos : Pos} {f g : DF}
end
end PD
set_option Elab.async false
set_option linter.all false
set_option maxRecDepth 100000
set_option maxHeartbeats 4000000
set_option autoImplicit false
namespace PD
open PySem L2
abbrev DL := List Sl → R (List AV × Cl × List Sl)
section
variable {X : Cx} {W : WX} {sc : Scope} {N : List Str} {e : Expr} {es : List Expr} {f : DF} {k : DL} {n0 : DC}
end
section
variable {X : Cx} {W : WX} {sc : Scope} {N : List Str} {e : Expr} {es : List Expr} {x : Str} {p pos : Pos} {m : List Ar → R (Rs × List Sl)} {k : DL}
end
end PD
set_option Elab.async false
set_option linter.all false
set_option maxRecDepth 100000
set_option maxHeartbeats 4000000
set_option autoImplicit false
namespace PD
open PySem L2
inductive Atm where
  | v (i : Nat)
  | h (j c : Nat)
def AtV (σ : St) (H : Hp) : Atm → V → Prop
  | .v i, v => σ[i]? = some (some v)
  | .h j c, v => ∃ p ws, σ[j]? = some (some (.ref p)) ∧ H p = some (.lst ws) ∧ ws[c]? = some v
inductive AtVs (σ : St) (H : Hp) : List Atm → List V → Prop
  | nil : AtVs σ H [] []
  | cons {a : Atm} {as : List Atm} {v : V} {vs : List V} : AtV σ H a v → AtVs σ H as vs → AtVs σ H (a :: as) (v :: vs)
section
variable {X : Cx} {W : WX} {sc : Scope} {N : List Str} {e : Expr} {es : List Expr} {as : List Atm} {x : Str} {p p2 cp pos : Pos}
end
theorem TresOk.at {K : PySem.W.Frag} {G : Rg} {H : Hp} : ∀ {ws : List V} {fp : List Addr} {ts : List Tre} {c : Nat} {t : Tre}, TresOk K G H ws fp ts → ts[c]? = some t → ∃ v f, ws[c]? = some v ∧ TreOk K G H v f t
  | _, _, _, c, t, .nil, e => by simp at e
  | _, _, _, 0, t, .cons h a n, e => by simp at e; subst e; exact ⟨_, _, rfl, h⟩
  | _, _, _, c + 1, t, .cons h a n, e => by
    obtain ⟨v, f, h1, h2⟩ := TresOk.at (c := c) a (by simpa using e)
    exact ⟨v, f, by simpa using h1, h2⟩
section
variable {X : Cx} {W : WX} {sc : Scope} {N : List Str} {e : Expr} {es : List Expr} {as : List Atm} {x : Str} {p pos : Pos} {m : List Ar → R (Rs × List Sl)}
end
end PD
set_option Elab.async false
set_option linter.all false
set_option maxRecDepth 100000
set_option maxHeartbeats 4000000
set_option autoImplicit false
namespace PD
open PySem L2
section
variable {X : Cx} {W : WX} {sc : Scope} {N : List Str} {e e1 : Expr} {x : Str} {p p2 cp cp2 pos tpos apos cpos : Pos} {f : DF} {n : DN}
end
end PD
set_option Elab.async false
set_option linter.all false
set_option maxRecDepth 100000
set_option maxHeartbeats 4000000
set_option autoImplicit false
namespace PD
open PySem L2
section
variable {X : Cx} {W : WX} {sc : Scope} {N : List Str} {e : Expr} {x : Str} {p p2 ipos cp cp2 pos tpos apos cpos : Pos} {f : DF}
end
end PD
set_option Elab.async false
set_option linter.all false
set_option maxRecDepth 100000
set_option maxHeartbeats 4000000
set_option autoImplicit false
namespace PD
open PySem L2
theorem AtVs.heap {σ : St} {H H2 : Hp} : ∀ {is : List Nat} {vs : List V}, AtVs σ H (is.map Atm.v) vs → AtVs σ H2 (is.map Atm.v) vs
  | [], _, .nil => .nil
  | _ :: _, _, .cons h k => .cons h (AtVs.heap k)
section
variable {X : Cx} {W : WX} {sc : Scope} {N : List Str} {e : Expr} {es : List Expr} {is : List Nat} {x : Str} {p pos : Pos} {m : List Ar → R (Rs × List Sl)} {n0 : DC}
end
end PD
set_option Elab.async false
set_option linter.all false
set_option maxRecDepth 100000
set_option maxHeartbeats 4000000
set_option autoImplicit false
namespace PD
open PySem L2
end PD
set_option Elab.async false
set_option linter.all false
set_option maxRecDepth 100000
set_option maxHeartbeats 4000000
set_option autoImplicit false
namespace PD
open PySem L2
section
variable {X : Cx} {Γ : List Sl} {m : List Ar → R (Rs × List Sl)} {r j : Nat} {ms : List Bool} {as : List Atm} {E : St → XK}
end
end PD
set_option Elab.async false
set_option linter.all false
set_option maxRecDepth 100000
set_option maxHeartbeats 4000000
set_option autoImplicit false
namespace PD
open PySem L2
end PD
set_option Elab.async false
set_option linter.all false
set_option maxRecDepth 100000
set_option maxHeartbeats 4000000
set_option autoImplicit false
namespace PD
open PySem L2
section
variable {X : Cx} {W : WX} {sc : Scope} {N : List Str} {x y z n : Str} {m : List Ar → R (Rs × List Sl)} {r j i mk : Nat} {ms : List Bool} {as : List Atm} {cond : Expr} {scope : Scope} {own : List (Str × Nat)} {ss : List Stmt} {b : DS}
end
end PD
set_option Elab.async false
set_option linter.all false
set_option maxRecDepth 100000
set_option maxHeartbeats 4000000
set_option autoImplicit false
namespace PD
open PySem L2
section
variable {X : Cx} {W : WX} {sc : Scope} {N : List Str} {e : Expr} {es : List Expr} {as : List Atm} {x : Str} {p pos : Pos} {m : List Ar → R (Rs × List Sl)}
theorem pg_nm (C : Cf0 X W sc N) (i : Nat) (hN : N[i]? = some x) (hv : Sto X sc x) : PG X (.Name x p) (gName i) := C.pg hN hv
theorem pe_nmV (C : Cf0 X W sc N) (i : Nat) (hN : N[i]? = some x) (hv : visB sc x = true) (hd : (x == ("__debug__" : Str)) = false := by decide +kernel) (hcd : (x == ("__classdict__" : Str)) = false := by decide +kernel) : PE X (.Name x p) (tVar i) := pe_var (by rw [C.hN]; exact hN) (by rw [C.hsc]; exact vis_of hv) hd hcd
end
end PD
set_option Elab.async false
set_option linter.all false
set_option maxRecDepth 100000
set_option maxHeartbeats 4000000
set_option autoImplicit false
namespace PD
open PySem L2
abbrev Pr := PyData × List PyData
abbrev DP := List Sl → R (Pr × List Sl)
def prT (z : Pr) : Tre := .lst [.d z.1, .lst (z.2.map Tre.d)]
def prsT (zs : List Pr) : Tre := .lst (zs.map prT)
def nPair (f : DF) (n : DC) : DP := fun Γ => (dFrz f Γ).bind fun y => match y.1 with
  | .d true x => (n y.2).bind fun z => match z.1 with
    | .lst ds => .val ((x, ds), z.2)
    | _ => .bad
  | _ => .bad
def rdP (X : Cx) (W : WX) (Γ : List Sl) (m : R (Pr × List Sl)) : TE := fun σ H Q => ∃ G, Sta X.K G H σ Γ ∧ Pst X W G H σ m fun r G' H' => ∀ q a v1 vs, Sta X.K G' H' σ r.2 → H' a = none → H' q = none → q ≠ a → Dn X.K (rg G' true) H' v1 r.1.1 → DnA X.K (rg G' true) H' vs r.1.2 → Q (.ref q) (upd (upd H' a (.lst vs)) q (.lst [v1, .ref a]))
def CP (X : Cx) (W : WX) (e : Expr) (f : DP) : Prop := ∀ Γ, PE X e (rdP X W Γ (f Γ))
theorem hp_ext {H H' : Hp} {a : Addr} {o : HO} (h : ∀ b, b ∉ [a] → H' b = H b) (ha : H' a = some o) : H' = upd H a o := by
  funext b
  by_cases e : b = a
  · subst e; rw [upd_same]; exact ha
  · rw [upd_ne e]; exact h b (by simpa using e)
section
variable {X : Cx} {W : WX} {sc : Scope} {N : List Str} {a b : Expr} {pos : Pos} {f : DF} {n : DC}
theorem cp_pair (h1 : CE X W a f) (h2 : CC X W b n) (hs : starEach [a, b] X.env = (false, eval a X.env) :: starEach [b] X.env := by rfl) (hs2 : starEach [b] X.env = (false, eval b X.env) :: starEach [] X.env := by rfl) : CP X W (.List [a, b] pos) (nPair f n) := fun Γ =>
  pe_imp (pe_lst (pa_cons (ce_frz h1 Γ) (pa_cons (pe_any fun Γ1 => h2 Γ1) pa_nil hs2) hs)) fun σ H Q ⟨G, S, q⟩ => ⟨G, S, (Pst.bind q).imp fun y G1 H1 e1 p1 v1 S1 hv1 => by
    obtain ⟨y, Γ1⟩ := y
    dsimp only at p1 S1 hv1
    cases y with
    | s _ => exact p1.elim
    | d fr x =>
    cases fr with
    | false => exact p1.elim
    | true =>
      have hv1 : Dn X.K (rg G1 true) H1 v1 x := hv1
      refine ⟨Γ1, G1, S1, (Pst.bind p1).imp fun z G2 H2 e2 p2 v2 H3 S2 nc => ?_⟩
      obtain ⟨c, Γ2⟩ := z
      cases c with
      | lst ds =>
        obtain ⟨fp, k1, k2, p, vs, rfl, rfl, k3, k4⟩ := nc
        have hp0 : H2 p = none := (k2 p (by simp)).1
        have hH3 : H3 = upd H2 p (.lst vs) := hp_ext k1 k3
        have t : TupLe H3 H2 := fun b xs hb => by
          by_cases e : b = p
          · subst e; rw [k3] at hb; cases hb
          · rw [← k1 b (by simpa using e)]; exact hb
        refine ⟨by show 2 ≤ sizeLine; decide, fun q hq => ?_⟩
        have hqp : q ≠ p := fun e => by rw [e, k3] at hq; cases hq
        have hq2 : H2 q = none := by rw [← k1 q (by simpa using hqp)]; exact hq
        rw [hH3]
        refine p2 G2 H2 (Ext.rf S2.w) q p v1 vs S2 hp0 hq2 hqp (hv1.mono (e2.rgl true) e2.t) (k4.mono (fun _ _ h => h) t)
      | dic _ _ => exact p2.elim
      | feed _ => exact p2.elim
      | tr _ => exact p2.elim
      | mul _ _ => exact p2.elim⟩
end
def compP (vs : List Nat) (g : DG) (fr : Bool) (e : DP) : List PyData → List Sl → R (List Pr × List Sl)
  | [], Γ => .val ([], Γ)
  | d :: ds, Γ => (R.ofO (g fr d Γ)).bind fun Γ1 => (e Γ1).nox.bind fun y => (compP vs g fr e ds (wipeG y.2 vs)).bind fun r => .val (y.1 :: r.1, r.2)
theorem compP_cons (vs : List Nat) (g : DG) (fr : Bool) (e : DP) (d : PyData) (ds : List PyData) (Γ : List Sl) : compP vs g fr e (d :: ds) Γ = (R.ofO (g fr d Γ)).bind fun Γ1 => (e Γ1).nox.bind fun y => (compP vs g fr e ds (wipeG y.2 vs)).bind fun r => .val (y.1 :: r.1, r.2) := rfl
def cCompP (vs : List Nat) (g : DG) (it : DI) (e : DP) : DC := fun Γ => (it Γ).bind fun z => (R.req (szB z.1.1)).bind fun _ => (compP vs g z.1.2 e z.1.1 (wipeG z.2 vs)).bind fun r => .val (.tr (prsT r.1), r.2)
abbrev Pl4 := Addr × V × Addr × List V
def pinsP : List Pl4 → List (Addr × List V)
  | [] => []
  | z :: l => (z.1, [z.2.1, .ref z.2.2.1]) :: (z.2.2.1, z.2.2.2) :: pinsP l
def RowsP (K : PySem.W.Frag) (G : Rg) (H : Hp) : List Pl4 → List Pr → Prop
  | [], [] => True
  | z :: l, y :: ys => (Dn K G H z.2.1 y.1 ∧ DnA K G H z.2.2.2 y.2) ∧ RowsP K G H l ys
  | _, _ => False
theorem RowsP.mono {K : PySem.W.Frag} {G G' : Rg} {H H' : Hp} (g : RgLe G G') (t : TupLe H H') : ∀ {l : List Pl4} {ys : List Pr}, RowsP K G H l ys → RowsP K G' H' l ys
  | [], [], _ => trivial
  | _ :: _, _ :: _, h => ⟨⟨h.1.1.mono g t, h.1.2.mono g t⟩, RowsP.mono g t h.2⟩
  | [], _ :: _, h => h.elim
  | _ :: _, [], h => h.elim
theorem RowsP.snoc {K : PySem.W.Frag} {G : Rg} {H : Hp} {z : Pl4} {y : Pr} (h1 : Dn K G H z.2.1 y.1) (h2 : DnA K G H z.2.2.2 y.2) : ∀ {l : List Pl4} {ys : List Pr}, RowsP K G H l ys → RowsP K G H (l ++ [z]) (ys ++ [y])
  | [], [], _ => ⟨⟨h1, h2⟩, trivial⟩
  | _ :: _, _ :: _, h => ⟨h.1, RowsP.snoc h1 h2 h.2⟩
  | [], _ :: _, h => h.elim
  | _ :: _, [], h => h.elim
def adP : List Pl4 → List Addr
  | [] => []
  | z :: l => z.1 :: z.2.2.1 :: adP l
theorem adP_eq : ∀ l : List Pl4, (pinsP l).map (·.1) = adP l
  | [] => rfl
  | z :: l => by
    show z.1 :: z.2.2.1 :: (pinsP l).map (·.1) = _
    rw [adP_eq l]; rfl
theorem adP_app : ∀ l l' : List Pl4, adP (l ++ l') = adP l ++ adP l'
  | [], _ => rfl
  | z :: l, l' => by
    show z.1 :: z.2.2.1 :: adP (l ++ l') = z.1 :: z.2.2.1 :: (adP l ++ adP l')
    rw [adP_app l l']
theorem adP_rev {a : Addr} : ∀ l : List Pl4, a ∈ adP l.reverse ↔ a ∈ adP l
  | [] => Iff.rfl
  | z :: l => by
    rw [List.reverse_cons, adP_app, List.mem_append, adP_rev l]
    show a ∈ adP l ∨ a ∈ [z.1, z.2.2.1] ↔ a ∈ z.1 :: z.2.2.1 :: adP l
    simp only [List.mem_cons, List.not_mem_nil, or_false]
    constructor
    · rintro (h | h | h)
      · exact .inr (.inr h)
      · exact .inl h
      · exact .inr (.inl h)
    · rintro (h | h | h)
      · exact .inr (.inl h)
      · exact .inr (.inr h)
      · exact .inl h
theorem adP_nd : ∀ l : List Pl4, (adP l).Nodup → (adP l.reverse).Nodup
  | [], h => h
  | z :: l, h => by
    have h : (z.1 :: z.2.2.1 :: adP l).Nodup := h
    obtain ⟨h1, h2⟩ := List.nodup_cons.mp h
    obtain ⟨h3, h4⟩ := List.nodup_cons.mp h2
    rw [List.reverse_cons, adP_app]
    refine List.nodup_append.mpr ⟨adP_nd l h4, ?_, fun a ha b hb e => ?_⟩
    · show ([z.1, z.2.2.1] : List Addr).Nodup
      exact List.nodup_cons.mpr ⟨fun hm => h1 (by rw [List.mem_singleton.mp hm]; simp), by simp⟩
    · have ha := (adP_rev l).mp ha
      have hb : b ∈ [z.1, z.2.2.1] := hb
      subst e
      simp only [List.mem_cons, List.not_mem_nil, or_false] at hb
      rcases hb with rfl | rfl
      · exact h1 (List.mem_cons_of_mem _ ha)
      · exact h3 ha
theorem pinsP_mem {l : List Pl4} {z : Pl4} (h : z ∈ l) : (z.1, [z.2.1, V.ref z.2.2.1]) ∈ pinsP l ∧ (z.2.2.1, z.2.2.2) ∈ pinsP l := by
  induction l with
  | nil => cases h
  | cons y l ih =>
    rcases List.mem_cons.mp h with rfl | h
    · exact ⟨by simp [pinsP], by simp [pinsP]⟩
    · obtain ⟨h1, h2⟩ := ih h
      exact ⟨by simp [pinsP, h1], by simp [pinsP, h2]⟩
theorem RowsP.tres {K : PySem.W.Frag} {G : Rg} {H : Hp} : ∀ {l : List Pl4} {ys : List Pr}, RowsP K G H l ys → (adP l).Nodup → (∀ z ∈ l, H z.1 = some (.lst [z.2.1, .ref z.2.2.1]) ∧ H z.2.2.1 = some (.lst z.2.2.2)) → TresOk K G H (l.map fun z => V.ref z.1) (adP l) (ys.map prT)
  | [], [], _, _, _ => .nil
  | z :: l, y :: ys, h, hn, hH => by
    have hn : (z.1 :: z.2.2.1 :: adP l).Nodup := hn
    obtain ⟨n1, n2⟩ := List.nodup_cons.mp hn
    obtain ⟨n3, n4⟩ := List.nodup_cons.mp n2
    obtain ⟨q1, q2⟩ := hH z (by simp)
    have hne : z.1 ≠ z.2.2.1 := fun e => n1 (by rw [e]; simp)
    have hrow : TreOk K G H (.ref z.1) (z.1 :: ([] ++ ([z.2.2.1] ++ []))) (prT y) := .lst q1 (.cons (.d h.1.1) (.cons (.lst q2 (tres_dna' h.1.2) (by simp)) .nil (by simp)) (by simp)) (by simpa using hne)
    exact .cons (f1 := [z.1, z.2.2.1]) (f2 := adP l) hrow (RowsP.tres h.2 n4 fun y hy => hH y (by simp [hy])) (fun p hp => by
      simp only [List.mem_cons, List.not_mem_nil, or_false] at hp
      rcases hp with rfl | rfl
      · exact fun hm => n1 (List.mem_cons_of_mem _ hm)
      · exact n3)
  | [], _ :: _, h, _, _ => h.elim
  | _ :: _, [], h, _, _ => h.elim
end PD
set_option Elab.async false
set_option linter.all false
set_option maxRecDepth 100000
set_option maxHeartbeats 4000000
set_option autoImplicit false
namespace PD
open PySem L2
section
variable {X : Cx} {W : WX} {sc : Scope} {N : List Str} {Γ : List Sl} {tg iter elt : Expr} {scope : Scope} {own : List (Str × Nat)} {pos : Pos} {it : DI} {g : DG} {e : DP} {ts : List Nat}
theorem comp_rdP (hts : ∀ j ∈ ts, j ∈ own.map (·.2)) {σ : St} {H : Hp} {Q : VK} (h : rdC X W Γ (cCompP (own.map (·.2)) g it e Γ) σ H Q) :
    tLc (rdIU X W Γ (it Γ)) (fun v σ H Q => ∃ G Γ fr d Γ', Sta X.K G H σ Γ ∧ Dn X.K (rg G fr) H v d ∧ g fr d Γ = some Γ' ∧ ∀ σ', σ'.length = σ.length → (∀ j, j ∉ ts → σ'[j]? = σ[j]?) → Sta X.K G H σ' Γ' → Q σ' H)
      (fun σ H Q => ∃ Γ1, rdT X WF Γ1 (PD.tYes Γ1) Prod.fst Prod.snd σ H Q) (fun σ H Q => ∃ Γ1, rdP X WF Γ1 (e Γ1) σ H Q) (own.map (·.2)) σ H Q := by
  obtain ⟨G, S0, p⟩ := h
  refine ⟨G, S0, (Pst.bind p).imp fun r G1 H1 e1 p1 J S1 I D hD => ?_⟩
  generalize hvs : own.map (·.2) = vs at *
  obtain ⟨⟨items, fr⟩, Γ1⟩ := r
  obtain ⟨hsz, p1⟩ := Pst.req p1
  simp only at hsz p1 I S1
  have hsz : items.length ≤ sizeLine := of_decide_eq_true hsz
  have fresh : ∀ {q : Addr}, H1 q = none → G1.E q = none ∧ ∀ j, G1.I j ≠ some (.ref q) := fun {q} hq => by
    have hE : G1.E q = none := by
      cases z : G1.E q with
      | none => rfl
      | some u => rw [(S1.w.ex q u z).1] at hq; cases hq
    refine ⟨hE, fun j h => ?_⟩
    rcases S1.w.iv j q h with z | z | ⟨xs, z⟩
    · exact S1.w.pal q z hq
    · exact z hE
    · rw [hq] at z; cases z
  obtain ⟨hE0, hID⟩ := fresh hD
  have hww : L2.wipe (L2.wipe σ vs) vs = L2.wipe σ vs := wipe_eq (ts := vs) (wipe_length ..) (fun j hj => wipe_out hj) (fun j hj => hj)
  have nol : ∀ vs' : List V, (∀ xs, HO.lst vs' ≠ .tup xs) ∧ ∀ x y, HO.lst vs' ≠ .frz x y := fun vs' => ⟨fun _ z => (by cases z), fun _ _ z => (by cases z)⟩
  let body : Nat → Hp → Prop := fun i H2 => i ≤ items.length ∧ ∃ (G2 : Gh) (s0 : List Sl) (l : List Pl4) (dss : List Pr), Sta X.K G2 H2 (L2.wipe σ vs) (wipeG s0 vs) ∧ Le G1 H1 G2 H2 ∧ G2.E = upd (pinE G1.E (pinsP l)) D (.lst (l.reverse.map fun z => V.ref z.1)) ∧ G2.I = G1.I ∧ RowsP X.K (rg G2 true) H2 l.reverse dss ∧ l.length = i ∧ (adP l).Nodup ∧ (∀ b ∈ adP l, b ≠ D ∧ G1.E b = none ∧ ∀ j, G1.I j ≠ some (.ref b)) ∧
    compP vs g fr e items (wipeG Γ1 vs) = (compP vs g fr e (items.drop i) (wipeG s0 vs)).bind fun z => .val (dss ++ z.1, z.2)
  refine ⟨fun i m H2 => m = items.length - i ∧ body i H2, ⟨_, rfl, Nat.zero_le _, ?_⟩, ?_⟩
  · have Sw : Sta X.K G1 H1 (L2.wipe σ vs) (wipeG Γ1 vs) := S1.wipeS vs
    obtain ⟨S2, t2⟩ := Sw.pin (o := .lst []) hD
    refine ⟨_, Γ1, [], [], S2, ⟨rfl, rfl, fun _ _ h => h, fun _ _ h => .inl h, t2, S2.w, fun a o h => by show upd G1.E D _ a = _; rw [upd_ne (fun z => by rw [z, hE0] at h; cases h)]; exact h⟩, rfl, rfl, trivial, rfl, List.Pairwise.nil, (fun z hz => by cases hz), ?_⟩
    rw [List.drop_zero]
    have : (fun z : List Pr × List Sl => R.val ([] ++ z.1, z.2)) = fun z => R.val z := rfl
    rw [this, R.bind_val]
  · rintro i m H2 ⟨rfl, hile, G2, s0, l, dss, S2, l2, hE2, hI2, d2, hll, hnd, hfr, eq⟩
    by_cases hlt : i < items.length
    · rw [List.drop_eq_getElem_cons hlt, compP_cons, R.bind_assoc] at eq
      cases hg : g fr items[i] (wipeG s0 vs) with
      | none => rw [hg] at eq; rw [eq] at p1; exact p1.elim
      | some Γ3 =>
      rw [hg] at eq
      have eq : compP vs g fr e items (wipeG Γ1 vs) = ((e Γ3).nox.bind fun y => (compP vs g fr e (items.drop (i + 1)) (wipeG y.2 vs)).bind fun r => .val (y.1 :: r.1, r.2)).bind fun z => .val (dss ++ z.1, z.2) := eq
      rw [R.bind_assoc] at eq
      refine .inr ⟨I.go i G2 H2 hlt l2, body (i + 1), fun H' hb => ⟨_, (by omega), rfl, hb⟩, fun v H3 y => ?_⟩
      obtain ⟨G3, d, hd, e3, S3, dn⟩ := I.yl i G2 H2 _ _ v H3 hlt l2 S2 y
      have hx : d = items[i] := by
        rw [List.getElem?_eq_getElem hlt] at hd
        exact (Option.some.inj hd).symm
      subst hx
      refine ⟨G3, wipeG s0 vs, fr, items[i], Γ3, S3, dn, hg, fun σ2 l3 k3 S4 => ⟨(wipe_eq l3 k3 hts).trans hww, Γ3, G3, S4, ?_⟩⟩
      have hw2 : L2.wipe σ2 vs = L2.wipe σ vs := (wipe_eq l3 k3 hts).trans hww
      intro G4 H4 e4 S5
      refine itT ⟨Γ3, G4, S5, ?_⟩
      have l4 : Le G1 H1 G4 H4 := (l2.tr e3.le).tr e4.le
      have hE4 : G4.E = upd (pinE G1.E (pinsP l)) D (.lst (l.reverse.map fun z => V.ref z.1)) := e4.e.trans (e3.e.trans hE2)
      have hI4 : G4.I = G1.I := e4.i.trans (e3.i.trans hI2)
      cases hte : e Γ3 with
      | bad => rw [hte] at eq; rw [eq] at p1; exact p1.elim
      | exc z => rw [hte] at eq; rw [eq] at p1; exact p1.elim
      | val z =>
        rw [hte] at eq
        obtain ⟨ds, Γ5⟩ := z
        have eq : compP vs g fr e items (wipeG Γ1 vs) = ((compP vs g fr e (items.drop (i + 1)) (wipeG Γ5 vs)).bind fun r => .val (ds :: r.1, r.2)).bind fun z => .val (dss ++ z.1, z.2) := eq
        intro G5 H5 e5 q a v1 wv S6 ha hq hqa dv1 dy
        have l5 := l4.tr e5.le
        have hE5 : G5.E = upd (pinE G1.E (pinsP l)) D (.lst (l.reverse.map fun z => V.ref z.1)) := e5.e.trans hE4
        have hI5 : G5.I = G1.I := e5.i.trans hI4
        have hD5 : H5 D = some (.lst (l.reverse.map fun z => V.ref z.1)) := (S6.w.ex D _ (by rw [hE5, upd_same])).1
        have hqD : q ≠ D := fun z => by rw [z, hD5] at hq; cases hq
        have haD : a ≠ D := fun z => by rw [z, hD5] at ha; cases ha
        have nin : ∀ b, H5 b = none → b ∉ adP l := fun b hb hm => by
          rw [← adP_eq] at hm
          obtain ⟨z, hz, e'⟩ := List.mem_map.mp hm
          have hzD : z.1 ≠ D := by
            have : z.1 ∈ adP l := by rw [← adP_eq]; exact List.mem_map.mpr ⟨z, hz, rfl⟩
            exact (hfr _ this).1
          have h7 : G5.E z.1 = some (.lst z.2) := by
            rw [hE5, upd_ne hzD]
            exact pinE_in (by rw [adP_eq]; exact hnd) hz
          have := (S6.w.ex z.1 _ h7).1
          rw [e', hb] at this
          cases this
        have nE : ∀ b, H5 b = none → b ≠ D → G1.E b = none := fun b hb hbD => by
          cases z : G1.E b with
          | none => rfl
          | some u =>
            have h7 : G5.E b = some u := by rw [hE5, upd_ne hbD, pinE_out (by rw [adP_eq]; exact nin b hb)]; exact z
            have := (S6.w.ex b u h7).1
            rw [hb] at this; cases this
        have nI : ∀ b, H5 b = none → b ≠ D → ∀ j, G1.I j ≠ some (.ref b) := fun b hb hbD j h => by
          rcases S6.w.iv j b (by rw [hI5]; exact h) with z | z | ⟨xs, z⟩
          · exact S6.w.pal b z hb
          · exact z (by rw [hE5, upd_ne hbD, pinE_out (by rw [adP_eq]; exact nin b hb)]; exact nE b hb hbD)
          · rw [hb] at z; cases z
        have hDl : D ∉ (pinsP l).map (·.1) := fun hm => (hfr D (by rw [← adP_eq]; exact hm)).1 rfl
        have hp0 : pinE G1.E (pinsP l) D = none := by rw [pinE_out hDl]; exact hE0
        obtain ⟨S7, hHD, t7⟩ := (S6.wipeS vs).unpin hE5 hp0 (nol _).1 (nol _).2 (fun j => by rw [hI5]; exact hID j)
        obtain ⟨S8, t8⟩ := S7.pin (D := a) (o := .lst wv) (by rw [del_ne haD]; exact ha)
        obtain ⟨S8b, t8b⟩ := S8.pin (D := q) (o := .lst [v1, .ref a]) (by rw [upd_ne hqa, del_ne hqD]; exact hq)
        have hD8 : upd (upd (PD.del H5 D) a (.lst wv)) q (.lst [v1, .ref a]) D = none := by rw [upd_ne (Ne.symm hqD), upd_ne (Ne.symm haD)]; exact del_same
        obtain ⟨S9, t9⟩ := S8b.pin (o := .lst (l.reverse.map (fun z => V.ref z.1) ++ [.ref q])) hD8
        have hH : upd (upd (upd (PD.del H5 D) a (.lst wv)) q (.lst [v1, .ref a])) D (.lst (l.reverse.map (fun z => V.ref z.1) ++ [.ref q])) = upd (upd (upd H5 a (.lst wv)) q (.lst [v1, .ref a])) D (.lst (l.reverse.map (fun z => V.ref z.1) ++ [.ref q])) := by
          funext b
          by_cases z : b = D
          · subst z; rw [upd_same, upd_same]
          · rw [upd_ne z, upd_ne z]
            by_cases z2 : b = q
            · subst z2; rw [upd_same, upd_same]
            · rw [upd_ne z2, upd_ne z2]
              by_cases z3 : b = a
              · subst z3; rw [upd_same, upd_same]
              · rw [upd_ne z3, upd_ne z3, del_ne z]
        rw [hH] at S9 t9
        have tt : TupLe H5 (upd (upd (upd H5 a (.lst wv)) q (.lst [v1, .ref a])) D (.lst (l.reverse.map (fun z => V.ref z.1) ++ [.ref q]))) := t7.tr (t8.tr (t8b.tr t9))
        have hlen : (l.reverse.map (fun z => V.ref z.1)).length = i := by rw [List.length_map, List.length_reverse, hll]
        refine ⟨l.reverse.map (fun z => V.ref z.1), by rw [upd_ne (Ne.symm hqD), upd_ne (Ne.symm haD)]; exact hD5, by omega, ?_⟩
        have hrev : ((q, v1, a, wv) :: l).reverse = l.reverse ++ [(q, v1, a, wv)] := List.reverse_cons
        refine ⟨hlt, ⟨G5.H0, G5.P, G5.I, G5.N, upd (upd (upd (pinE G1.E (pinsP l)) a (.lst wv)) q (.lst [v1, .ref a])) D (.lst (l.reverse.map (fun z => V.ref z.1) ++ [.ref q]))⟩, Γ5, (q, v1, a, wv) :: l, dss ++ [ds], ?_, ⟨l5.h0, l5.p, l5.n, l5.nn, l5.t.tr tt, S9.w, fun b o h => ?_⟩, ?_, hI5, ?_, by simp [hll], List.nodup_cons.mpr ⟨fun hm => ?_, List.nodup_cons.mpr ⟨nin a ha, hnd⟩⟩, ?_, ?_⟩
        · rw [← hw2]
          exact S9
        · have h1 : b ≠ D := fun z => by rw [z, hE0] at h; cases h
          have h2 : b ≠ q := fun z => by rw [z, nE q hq hqD] at h; cases h
          have h4 : b ≠ a := fun z => by rw [z, nE a ha haD] at h; cases h
          have h3 : b ∉ (pinsP l).map (·.1) := fun hm => by
            rw [(hfr b (by rw [← adP_eq]; exact hm)).2.1] at h
            cases h
          show upd (upd (upd (pinE G1.E (pinsP l)) a _) q _) D _ b = _
          rw [upd_ne h1, upd_ne h2, upd_ne h4, pinE_out h3]
          exact h
        · show upd (upd (upd (pinE G1.E (pinsP l)) a _) q _) D _ = upd (upd (upd (pinE G1.E (pinsP l)) a _) q _) D _
          rw [hrev, List.map_append]; rfl
        · rw [hrev]
          have dd : RowsP X.K (rg G5 true) H5 l.reverse dss := RowsP.mono (e5.rgl true) e5.t (RowsP.mono (e4.rgl true) e4.t (RowsP.mono (e3.rgl true) e3.t d2))
          exact RowsP.snoc (dv1.mono (fun _ _ h => h) tt) (dy.mono (fun _ _ h => h) tt) (dd.mono (fun _ _ h => h) tt)
        · rcases List.mem_cons.mp hm with z | z
          · exact hqa z
          · exact nin q hq z
        · intro b hb
          have hb : b ∈ q :: a :: adP l := hb
          rcases List.mem_cons.mp hb with rfl | hb
          · exact ⟨hqD, nE _ hq hqD, nI _ hq hqD⟩
          · rcases List.mem_cons.mp hb with rfl | hb
            · exact ⟨haD, nE _ ha haD, nI _ ha haD⟩
            · exact hfr b hb
        · rw [eq, R.bind_assoc]
          congr 1
          funext q
          show R.val (dss ++ ds :: q.1, q.2) = R.val (dss ++ [ds] ++ q.1, q.2)
          rw [List.append_assoc]
          rfl
    · have ei : i = items.length := by omega
      subst ei
      refine .inl ⟨I.st G2 H2 l2, ?_⟩
      rw [List.drop_length] at eq
      have eq : compP vs g fr e items (wipeG Γ1 vs) = .val (dss ++ [], wipeG s0 vs) := eq
      rw [List.append_nil] at eq
      rw [eq] at p1
      have hDl : D ∉ (pinsP l).map (·.1) := fun hm => (hfr D (by rw [← adP_eq]; exact hm)).1 rfl
      have hp0 : pinE G1.E (pinsP l) D = none := by rw [pinE_out hDl]; exact hE0
      have hzb : ∀ z ∈ pinsP l, z.1 ∈ adP l := fun z hz => by rw [← adP_eq]; exact List.mem_map.mpr ⟨z, hz, rfl⟩
      obtain ⟨S7, hHD, t7⟩ := S2.unpin hE2 hp0 (nol _).1 (nol _).2 (fun j => by rw [hI2]; exact hID j)
      obtain ⟨S8, t8, k8⟩ := S7.unpinL (l := pinsP l) (I := G1.I) rfl hI2 (by rw [adP_eq]; exact hnd) fun z hz => (hfr _ (hzb z hz)).2
      have kk : ∀ z ∈ pinsP l, H2 z.1 = some (.lst z.2) := fun z hz => by
        have := k8 z hz
        rwa [del_ne (hfr _ (hzb z hz)).1] at this
      have T : TresOk X.K (rg G2 true) H2 (l.reverse.map fun z => V.ref z.1) (adP l.reverse) (dss.map prT) := RowsP.tres d2 (adP_nd l hnd) fun z hz => by
        obtain ⟨m1, m2⟩ := pinsP_mem (List.mem_reverse.mp hz)
        exact ⟨kk _ m1, kk _ m2⟩
      have T2 : TresOk X.K (rg (⟨G2.H0, G2.P, G2.I, G2.N, G1.E⟩ : Gh) true) H2 (l.reverse.map fun z => V.ref z.1) (adP l.reverse) (dss.map prT) := TresOk.mono (G := rg G2 true) (fun _ _ z => z) (TupLe.rf _) T fun _ _ => rfl
      have mem : ∀ {a}, a ∈ adP l.reverse ↔ a ∈ (pinsP l).map (·.1) := fun {a} => by rw [adP_rev, adP_eq]
      refine p1 ⟨G2.H0, G2.P, G2.I, G2.N, G1.E⟩ (delL (PD.del H2 D) (pinsP l)) ⟨l2.h0, l2.p, hI2, rfl, l2.n, l2.nn, (l2.t.tr t7).tr t8, S8.w⟩ (.ref D) H2 (S8.swap (wipe_length ..).symm fun j => ?_) ⟨D :: adP l.reverse, fun a ha => ?_, fun a ha => ?_, .lst hHD T2 (fun h => hDl (mem.mp h)), D, rfl, .inl (by simp)⟩
      · have hlen : ∀ ws : List Nat, (wipeG s0 ws).length = s0.length := fun ws => by
          induction ws with
          | nil => rfl
          | cons w ws ih => simp [wipeG, ih]
        by_cases hj : j ∈ vs
        · by_cases hjl : j < s0.length
          · exact .inr (wipeG_at hj hjl)
          · left
            obtain ⟨A7, Z7⟩ := S8
            have : s0.length = σ.length := by rw [← hlen vs, Z7.len, wipe_length]
            rw [List.getElem?_eq_none (by omega), List.getElem?_eq_none (by rw [wipe_length]; omega)]
        · exact .inl (wipe_out hj).symm
      · have h1 : a ≠ D := fun z => ha (by simp [z])
        have h2 : a ∉ (pinsP l).map (·.1) := fun h => ha (List.mem_cons_of_mem _ (mem.mpr h))
        rw [delL_out h2, del_ne h1]
      · rcases List.mem_cons.mp ha with rfl | ha
        · exact ⟨by rw [delL_out hDl]; exact del_same, by rw [hHD]; simp⟩
        · have ha := mem.mp ha
          obtain ⟨z, hz, rfl⟩ := List.mem_map.mp ha
          exact ⟨delL_in ha, by rw [kk z hz]; simp⟩
end
end PD
set_option Elab.async false
set_option linter.all false
set_option maxRecDepth 100000
set_option maxHeartbeats 4000000
set_option autoImplicit false
namespace PD
open PySem L2
section
variable {X : Cx} {W : WX} {sc : Scope} {N : List Str} {tg iter elt : Expr} {scope : Scope} {own : List (Str × Nat)} {pos : Pos} {it : DI} {g : DG} {y : Str} {ts : List Nat}
structure CompP (X : Cx) (W : WX) (sc : Scope) (N : List Str) (tg iter elt : Expr) (scope : Scope) (own : List (Str × Nat)) (ts : List Nat) (g : DG) (it : DI) (e : DP) : Prop where
  hin : CI X W tg iter it
  ok : blkC N sc scope own = true
  hg : ∀ (s : Shared) (H : Hp) (c : Addr) (cl : List (Str × Addr)) (fp : List Addr), CG (X.blk s H scope (compEnvC scope cl c X.env) fp) tg ts g
  he : ∀ (s : Shared) (H : Hp) (c : Addr) (cl : List (Str × Addr)) (fp : List Addr), CP (X.blk s H scope (compEnvC scope cl c X.env) fp) WF elt e
  hts : ∀ j ∈ ts, j ∈ own.map (·.2)
  hs : ∀ x, foldedSetIterable iter X.env x = pure x
theorem c1_lcP (C : Cf X W sc N) (hk : sc.kind = .function) (i : Nat) {e : DP} {py spos : Pos} (hN : N[i]? = some y) (hy : lclB sc y = true) (h : CompP X W sc N tg iter elt scope own ts g it e) (hl : (py.line == pos.line) = true := by rfl) (hnn : (scope.names.any fun (n, k) => n == y && (k == .local || k == .cell)) = false := by decide +kernel) :
    C1 X W (.Assign [.Name y py] (.ListComp elt [⟨tg, iter, [], 0⟩] scope pos) spos) (bSetC i (cCompP (own.map (·.2)) g it e)) := fun Γ => by
  have hB : BlkOk X.N X.env.scope scope own := by rw [C.hN, C.hsc]; exact blkOk_by h.ok
  have hyl : X.env.scope.names.lookup y = some .local := by
    rw [C.hsc]
    unfold lclB at hy
    split at hy
    · assumption
    · cases hy
  refine ps_imp (ps_setLc (g := fun v σ H Q => ∃ G Γ fr d Γ', Sta X.K G H σ Γ ∧ Dn X.K (rg G fr) H v d ∧ g fr d Γ = some Γ' ∧ ∀ σ' : St, List.length σ' = List.length σ → (∀ j, j ∉ ts → σ'[j]? = σ[j]?) → Sta X.K G H σ' Γ' → Q σ' H)
    (tt := fun σ H Q => ∃ Γ1, rdT X WF Γ1 (PD.tYes Γ1) Prod.fst Prod.snd σ H Q) (te := fun σ H Q => ∃ Γ1, rdP X WF Γ1 (e Γ1) σ H Q)
    C.calm (by rw [C.hN]; exact C.nd) (by rw [C.hN]; exact hN) hyl (sw_true (by rw [C.hsc]; exact hk) hyl hl hnn) (h.hin Γ) hB (fun s H c cl fp => h.hg s H c cl fp) (fun s H c cl fp => ?_) (fun s H c cl fp => ?_) h.hs) fun D σ H q => comp_rdP h.hts ?_
  · exact ⟨fun pins s' σ H' Q I ⟨z, q⟩ => (cts_nil (W := WF) z).run pins s' σ H' Q I q⟩
  · exact ⟨fun pins s' σ H' Q I ⟨z, q⟩ => (h.he s H c cl fp z).run pins s' σ H' Q I q⟩
  · obtain ⟨G, S, q⟩ := q
    refine ⟨G, S, (Pst.bind q).imp fun z G1 H1 e1 p1 v H2 S1 nc => ?_⟩
    obtain ⟨S2, e2⟩ := S1.putC i nc
    exact p1 G1 _ e2 _ S2
end
section
variable {K : PySem.W.Frag} {G : Gh} {H : Hp} {σ : St} {Γ : List Sl} {A : Nat → List Addr} {i j : Nat} {ns nn : List (List Itm)} {T : Tre}
theorem StaA.adoptG (S : StaA K G H σ Γ A) (hj : Γ[j]? = some (Sl.pool ns)) (hi : Γ[i]? = some (Sl.own (.tr T))) {p : Addr} (hp : σ[i]? = some (some (V.ref p))) (h0 : (A i)[0]? = some p) (hl : (A i).length = nn.length) (hnd : (A i).Nodup) (hH0 : ∀ q ∈ A i, G.H0 q = none)
    (hnn : ∀ (c : Nat) (nd : List Itm), nn[c]? = some nd → ∃ r vs, (A i)[c]? = some r ∧ H r = some (.lst vs) ∧ ItsOk K (RgN G) H (A j ++ A i) vs nd) :
    StaA K G H σ ((Γ.set i (.ref j ns.length)).set j (.pool (ns ++ nn))) (fun a => if a = j then A j ++ A i else if a = i then [] else A a) := by
  have hne : i ≠ j := fun z => by rw [z, hj] at hi; cases hi
  have hlt : j < Γ.length := (List.getElem?_eq_some_iff.mp hj).1
  have hlti : i < Γ.length := (List.getElem?_eq_some_iff.mp hi).1
  obtain ⟨q0, q1, q2, q3⟩ := S.sl j _ hj
  have njp : ∀ q, q ∈ A i → q ∉ A j := fun q hq z => hne (S.dj i j q hq z)
  refine ⟨S.w, by rw [List.length_set, List.length_set]; exact S.len, fun a s h => ?_, fun a q hq => ?_, fun a q hq => ?_, fun a b q ha hb => ?_, fun a b c ms g1 g2 => ?_⟩
  · by_cases ha : a = j
    · subst ha
      rw [List.getElem?_set_self (by rw [List.length_set]; exact hlt)] at h
      cases h
      rw [if_pos rfl]
      refine ⟨fun q hq => ?_, by simp [q1, hl], ?_, fun c nd' hc => ?_⟩
      · rcases List.mem_append.mp hq with z | z
        · exact q0 q z
        · exact hH0 q z
      · rw [List.nodup_append]
        exact ⟨q2, hnd, fun x hx y hy z => njp y hy (z ▸ hx)⟩
      · by_cases hcl : c < ns.length
        · rw [List.getElem?_append_left hcl] at hc
          obtain ⟨r, ws, g1, g2, g3⟩ := q3 c nd' hc
          exact ⟨r, ws, by rw [List.getElem?_append_left (by rw [q1]; exact hcl)]; exact g1, g2, g3.app _⟩
        · rw [List.getElem?_append_right (by omega)] at hc
          obtain ⟨r, vs, k1, k2, k3⟩ := hnn _ _ hc
          exact ⟨r, vs, by rw [List.getElem?_append_right (by rw [q1]; omega), q1]; exact k1, k2, k3⟩
    · rw [List.getElem?_set_ne (Ne.symm ha)] at h
      rw [if_neg ha]
      by_cases hai : a = i
      · subst hai
        rw [List.getElem?_set_self hlti] at h
        cases h
        rw [if_pos rfl]
        exact (rfl : ([] : List Addr) = [])
      · rw [List.getElem?_set_ne (Ne.symm hai)] at h
        rw [if_neg hai]
        exact S.sl a s h
  · by_cases ha : a = j
    · rw [if_pos ha] at hq
      rcases List.mem_append.mp hq with z | z
      · exact S.al j q z
      · exact S.al i q z
    · rw [if_neg ha] at hq
      by_cases hai : a = i
      · rw [if_pos hai] at hq; cases hq
      · rw [if_neg hai] at hq; exact S.al a q hq
  · by_cases ha : a = j
    · rw [if_pos ha] at hq
      rcases List.mem_append.mp hq with z | z
      · exact S.ae j q z
      · exact S.ae i q z
    · rw [if_neg ha] at hq
      by_cases hai : a = i
      · rw [if_pos hai] at hq; cases hq
      · rw [if_neg hai] at hq; exact S.ae a q hq
  · have own : ∀ b, b ≠ j → q ∈ (if b = j then A j ++ A i else if b = i then [] else A b) → b ≠ i ∧ q ∈ A b := fun b hb h => by
      rw [if_neg hb] at h
      by_cases hbi : b = i
      · rw [if_pos hbi] at h; cases h
      · rw [if_neg hbi] at h; exact ⟨hbi, h⟩
    have inj : q ∈ A j ++ A i → ∀ b, b ≠ j → b ≠ i → q ∈ A b → False := fun h b hb hbi hq => by
      rcases List.mem_append.mp h with z | z
      · exact hb (S.dj b j q hq z)
      · exact hbi (S.dj b i q hq z)
    by_cases ha' : a = j
    · by_cases hb' : b = j
      · rw [ha', hb']
      · obtain ⟨n1, n2⟩ := own b hb' hb
        rw [if_pos ha'] at ha
        exact (inj ha b hb' n1 n2).elim
    · obtain ⟨m1, m2⟩ := own a ha' ha
      by_cases hb' : b = j
      · rw [if_pos hb'] at hb
        exact (inj hb a ha' m1 m2).elim
      · obtain ⟨n1, n2⟩ := own b hb' hb
        exact S.dj a b q m2 n2
  · have ha : a ≠ j := fun z => by
      subst z
      rw [List.getElem?_set_self (by rw [List.length_set]; exact hlt)] at g1; cases g1
    rw [List.getElem?_set_ne (Ne.symm ha)] at g1
    by_cases hai : a = i
    · subst hai
      rw [List.getElem?_set_self hlti] at g1
      cases g1
      refine ⟨p, ?_, hp⟩
      rw [if_pos rfl, List.getElem?_append_right (by rw [q1]; exact Nat.le_refl _), q1, Nat.sub_self]
      exact h0
    · rw [List.getElem?_set_ne (Ne.symm hai)] at g1
      by_cases hb : b = j
      · subst hb
        obtain ⟨r, k1, k2⟩ := S.rf a b c ns g1 hj
        refine ⟨r, ?_, k2⟩
        rw [if_pos rfl, List.getElem?_append_left (List.getElem?_eq_some_iff.mp k1).1]
        exact k1
      · rw [List.getElem?_set_ne (Ne.symm hb)] at g2
        have hbi : b ≠ i := fun z => by
          subst z
          rw [List.getElem?_set_self hlti] at g2; cases g2
        rw [List.getElem?_set_ne (Ne.symm hbi)] at g2
        rw [if_neg hb, if_neg hbi]
        exact S.rf a b c ms g1 g2
end
theorem dna_of_tres {K : PySem.W.Frag} {G : Rg} {H : Hp} : ∀ {ds : List PyData} {vs : List V} {fp : List Addr}, TresOk K G H vs fp (ds.map Tre.d) → fp = [] ∧ DnA K G H vs ds
  | [], _, _, h => by cases h; exact ⟨rfl, .nil⟩
  | d :: ds, _, _, h => by
    cases h with
    | cons h1 h2 h3 =>
      cases h1 with
      | d hd =>
        obtain ⟨e, q⟩ := dna_of_tres h2
        subst e
        exact ⟨rfl, .cons hd q⟩
theorem rows_of_tres {K : PySem.W.Frag} {G : Rg} {H : Hp} : ∀ {ys : List Pr} {ws : List V} {fp : List Addr}, TresOk K G H ws fp (ys.map prT) → fp.Nodup ∧ fp.length = 2 * ys.length ∧ ws.length = ys.length ∧ ∀ (k : Nat) (y : Pr), ys[k]? = some y → ∃ q a v1 vs, fp[2 * k]? = some q ∧ fp[2 * k + 1]? = some a ∧ ws[k]? = some (V.ref q) ∧ H q = some (.lst [v1, .ref a]) ∧ H a = some (.lst vs) ∧ Dn K G H v1 y.1 ∧ DnA K G H vs y.2
  | [], _, _, h => by
    cases h
    exact ⟨List.nodup_nil, rfl, rfl, fun k y h => by simp at h⟩
  | y :: ys, _, _, h => by
    cases h with
    | cons h1 h2 h3 =>
      rename_i v ws f1 f2
      obtain ⟨n1, n2, n3, n4⟩ := rows_of_tres h2
      cases h1 with
      | lst g1 g2 g3 =>
        rename_i q us fq
        cases g2 with
        | cons k1 k2 k3 =>
          cases k1 with
          | d hx =>
            cases k2 with
            | cons m1 m2 m3 =>
              cases m2
              cases m1 with
              | lst r1 r2 r3 =>
                rename_i v1 a vs fa
                obtain ⟨e, hd⟩ := dna_of_tres r2
                subst e
                have hqa : q ≠ a := fun e => g3 (by simp [e])
                refine ⟨?_, by simp [n2]; omega, by simp [n3], fun k z hk => ?_⟩
                · refine List.nodup_append.mpr ⟨?_, n1, fun x hx y hy e => h3 x hx (e ▸ hy)⟩
                  show ([q, a] : List Addr).Nodup
                  exact List.nodup_cons.mpr ⟨by simpa using hqa, by simp⟩
                · cases k with
                  | zero =>
                    simp at hk
                    subst hk
                    exact ⟨q, a, v1, vs, rfl, rfl, rfl, g1, r1, hx, hd⟩
                  | succ k =>
                    obtain ⟨q', a', v1', vs', s1, s2, s3, s4⟩ := n4 k z (by simpa using hk)
                    refine ⟨q', a', v1', vs', ?_, ?_, by simpa using s3, s4⟩
                    · show (q :: a :: f2)[2 * (k + 1)]? = _
                      rw [show 2 * (k + 1) = 2 * k + 1 + 1 by omega, List.getElem?_cons_succ, List.getElem?_cons_succ]
                      exact s1
                    · show (q :: a :: f2)[2 * (k + 1) + 1]? = _
                      rw [show 2 * (k + 1) + 1 = (2 * k + 1) + 1 + 1 by omega, List.getElem?_cons_succ, List.getElem?_cons_succ]
                      exact s2
end PD
set_option Elab.async false
set_option linter.all false
set_option maxRecDepth 100000
set_option maxHeartbeats 4000000
set_option autoImplicit false
namespace PD
open PySem L2
def rootP (b n : Nat) : List Itm := (List.range n).map fun k => .r (b + 1 + 2 * k)
def restP : Nat → List Pr → List (List Itm)
  | _, [] => []
  | c, y :: ys => [.d y.1, .r (c + 1)] :: (y.2.map Itm.d) :: restP (c + 2) ys
def nodesP (b : Nat) (ys : List Pr) : List (List Itm) := rootP b ys.length :: restP (b + 1) ys
theorem restP_len : ∀ (c : Nat) (ys : List Pr), (restP c ys).length = 2 * ys.length
  | _, [] => rfl
  | c, y :: ys => by
    show (restP (c + 2) ys).length + 1 + 1 = 2 * (ys.length + 1)
    rw [restP_len (c + 2) ys]; omega
theorem restP_at : ∀ {c : Nat} {ys : List Pr} {m : Nat} {nd : List Itm}, (restP c ys)[m]? = some nd → ∃ k y, ys[k]? = some y ∧ ((m = 2 * k ∧ nd = [.d y.1, .r (c + 2 * k + 1)]) ∨ (m = 2 * k + 1 ∧ nd = y.2.map Itm.d))
  | _, [], _, _, h => by simp [restP] at h
  | c, y :: ys, 0, nd, h => by
    have h : some [Itm.d y.1, .r (c + 1)] = some nd := h
    cases h
    exact ⟨0, y, rfl, .inl ⟨rfl, rfl⟩⟩
  | c, y :: ys, 1, nd, h => by
    have h : some (y.2.map Itm.d) = some nd := h
    cases h
    exact ⟨0, y, rfl, .inr ⟨rfl, rfl⟩⟩
  | c, y :: ys, m + 2, nd, h => by
    have h : (restP (c + 2) ys)[m]? = some nd := h
    obtain ⟨k, z, h1, h2⟩ := restP_at h
    refine ⟨k + 1, z, by simpa using h1, ?_⟩
    rcases h2 with ⟨e, e2⟩ | ⟨e, e2⟩
    · exact .inl ⟨by omega, by rw [e2, show c + 2 + 2 * k + 1 = c + 2 * (k + 1) + 1 by omega]⟩
    · exact .inr ⟨by omega, e2⟩
theorem ItsOk.refs {K : PySem.W.Frag} {G : Rg} {H : Hp} {fp : List Addr} : ∀ {ws : List V} {f : Nat → Nat}, (∀ k, k < ws.length → ∃ q, ws[k]? = some (V.ref q) ∧ fp[f k]? = some q) → ItsOk K G H fp ws ((List.range ws.length).map fun k => .r (f k))
  | [], _, _ => .nil
  | w :: ws, f, h => by
    obtain ⟨q, h1, h2⟩ := h 0 (by simp)
    simp at h1
    subst h1
    rw [List.length_cons, List.range_succ_eq_map, List.map_cons, List.map_map]
    exact .r h2 (ItsOk.refs (f := fun k => f (k + 1)) fun k hk => by
      obtain ⟨q, h1, h2⟩ := h (k + 1) (by simpa using hk)
      exact ⟨q, by simpa using h1, h2⟩)
def ofDs : List Tre → Option (List PyData)
  | [] => some []
  | .d x :: us => (ofDs us).map fun ds => x :: ds
  | _ :: _ => none
def ofRow : Tre → Option Pr
  | .lst [.d x, .lst us] => (ofDs us).map fun ds => (x, ds)
  | _ => none
def ofRows : List Tre → Option (List Pr)
  | [] => some []
  | t :: ts => (ofRow t).bind fun y => (ofRows ts).map fun ys => y :: ys
def ofT : Tre → Option (List Pr)
  | .lst ts => ofRows ts
  | _ => none
theorem ofDs_ok : ∀ {us : List Tre} {ds : List PyData}, ofDs us = some ds → us = ds.map Tre.d
  | [], _, h => by cases h; rfl
  | t :: us, ds, h => by
    cases t with
    | d x =>
      have h : (ofDs us).map (fun ds => x :: ds) = some ds := h
      obtain ⟨r, h1, rfl⟩ := Option.map_eq_some_iff.mp h
      rw [ofDs_ok h1]; rfl
    | lst _ => cases h
    | tup _ => cases h
    | dic _ _ _ => cases h
    | ins _ _ _ => cases h
theorem ofRow_ok {t : Tre} {y : Pr} (h : ofRow t = some y) : t = prT y := by
  unfold ofRow at h
  split at h
  · obtain ⟨ds, h1, rfl⟩ := Option.map_eq_some_iff.mp h
    rw [ofDs_ok h1]; rfl
  · cases h
theorem ofRows_ok : ∀ {ts : List Tre} {ys : List Pr}, ofRows ts = some ys → ts = ys.map prT
  | [], _, h => by cases h; rfl
  | t :: ts, ys, h => by
    have h : ((ofRow t).bind fun y => (ofRows ts).map fun ys => y :: ys) = some ys := h
    obtain ⟨y, h1, h⟩ := Option.bind_eq_some_iff.mp h
    obtain ⟨r, h2, rfl⟩ := Option.map_eq_some_iff.mp h
    rw [ofRow_ok h1, ofRows_ok h2]; rfl
theorem ofT_ok {T : Tre} {ys : List Pr} (h : ofT T = some ys) : T = prsT ys := by
  cases T with
  | lst ts =>
    have h : ofRows ts = some ys := h
    rw [ofRows_ok h]; rfl
  | d _ => cases h
  | tup _ => cases h
  | dic _ _ _ => cases h
  | ins _ _ _ => cases h
theorem StaA.adoptP {K : PySem.W.Frag} {G : Gh} {H : Hp} {σ : St} {Γ : List Sl} {A : Nat → List Addr} {i j : Nat} {ns : List (List Itm)} {ys : List Pr} (S : StaA K G H σ Γ A) (hj : Γ[j]? = some (Sl.pool ns)) (hi : Γ[i]? = some (Sl.own (.tr (prsT ys)))) :
    ∃ A', StaA K G H σ ((Γ.set i (.ref j ns.length)).set j (.pool (ns ++ nodesP ns.length ys))) A' := by
  obtain ⟨q0, q1, q2, q3⟩ := S.sl j _ hj
  obtain ⟨v, h1, h0, g2, p, rfl, _⟩ := S.sl i _ hi
  have g2 : TreOk K (RgN G) H (.ref p) (A i) (.lst (ys.map prT)) := g2
  generalize hA : A i = Ai at g2
  cases g2 with
  | lst k1 k2 k3 =>
    rename_i ws fr
    obtain ⟨n1, n2, n3, n4⟩ := rows_of_tres k2
    refine ⟨_, S.adoptG (nn := nodesP ns.length ys) hj hi h1 (by rw [hA]; rfl) (by rw [hA]; show fr.length + 1 = (restP (ns.length + 1) ys).length + 1; rw [n2, restP_len]) (by rw [hA]; exact List.nodup_cons.mpr ⟨k3, n1⟩) h0 ?_⟩
    intro c nd hc
    rw [hA]
    have off : ∀ m : Nat, (A j ++ p :: fr)[ns.length + 1 + m]? = fr[m]? := fun m => by
      rw [List.getElem?_append_right (by omega), q1, show ns.length + 1 + m - ns.length = m + 1 by omega, List.getElem?_cons_succ]
    cases c with
    | zero =>
      have hc : some (rootP ns.length ys.length) = some nd := hc
      cases hc
      refine ⟨p, ws, rfl, k1, ?_⟩
      unfold rootP
      rw [← n3]
      refine ItsOk.refs (f := fun k => ns.length + 1 + 2 * k) fun k hk => ?_
      obtain ⟨y, hy⟩ : ∃ y, ys[k]? = some y := ⟨_, List.getElem?_eq_getElem (by omega)⟩
      obtain ⟨q, a, v1, vs, s1, s2, s3, _⟩ := n4 k y hy
      exact ⟨q, s3, by rw [off]; exact s1⟩
    | succ m =>
      have hc : (restP (ns.length + 1) ys)[m]? = some nd := hc
      obtain ⟨k, y, hy, hm⟩ := restP_at hc
      obtain ⟨q, a, v1, vs, s1, s2, s3, s4, s5, s6, s7⟩ := n4 k y hy
      rcases hm with ⟨rfl, rfl⟩ | ⟨rfl, rfl⟩
      · refine ⟨q, [v1, .ref a], by rw [List.getElem?_cons_succ]; exact s1, s4, .d s6 (.r ?_ .nil)⟩
        rw [show ns.length + 1 + 2 * k + 1 = ns.length + 1 + (2 * k + 1) by omega, off]
        exact s2
      · exact ⟨a, vs, by rw [List.getElem?_cons_succ]; exact s2, s5, ItsOk.of_dna s7⟩
def bAdP (i j : Nat) (g : DS) : DS := fun Γ => match Γ[i]?, poolA Γ j with
  | some (.own (.tr T)), some ns => match ofT T with
    | some ys => g ((Γ.set i (.ref j ns.length)).set j (.pool (ns ++ nodesP ns.length ys)))
    | none => .bad
  | _, _ => .bad
theorem cs_adP {X : Cx} {W : WX} {ss : List Stmt} {g : DS} (i j : Nat) (h : CS X W ss g) : CS X W ss (bAdP i j g) := fun Γ => by
  unfold bAdP
  split
  · rename_i T ns h1 h2
    split
    · rename_i ys h3
      rw [ofT_ok h3] at h1
      exact pss_imp (h _) fun D σ H ⟨G, ⟨A, S⟩, q⟩ => ⟨G, S.adoptP (poolA_ok h2) h1, q⟩
    · exact pss_imp (h Γ) fun D σ H ⟨G, S, q⟩ => q.elim
  · exact pss_imp (h Γ) fun D σ H ⟨G, S, q⟩ => q.elim
def secR (ns : List (List Itm)) (c : Nat) : List Itm → Option (List Itm)
  | [] => some []
  | .r k :: is => match ns[k]? with
    | some nd => match nd[c]? with
      | some (.r k') => (secR ns c is).map fun r => .r k' :: r
      | _ => none
    | none => none
  | .d _ :: _ => none
def dExtC (i j l r c : Nat) : DF := fun Γ => (R.ofO (nodeA Γ i j)).bind fun z => (R.ofO (nodeA Γ l j)).bind fun y => (R.ofO (secR z.2.1 c y.2.2)).bind fun is => (R.req (decide (r < Γ.length ∧ r ≠ i ∧ r ≠ j ∧ r ≠ l) && (decide (y.2.2.length < sizeLine) && szB (z.2.2 ++ is)))).bind fun _ => .val (.d true .none, (Γ.set r .un).set j (.pool (z.2.1.set z.1 (z.2.2 ++ is))))
theorem secR_at {ns : List (List Itm)} {c : Nat} : ∀ {is os : List Itm}, secR ns c is = some os → os.length = is.length ∧ ∀ (k : Nat) (x : Itm), is[k]? = some x → ∃ m nd k', x = .r m ∧ ns[m]? = some nd ∧ nd[c]? = some (.r k') ∧ os[k]? = some (.r k')
  | [], os, h => by
    cases h
    exact ⟨rfl, fun k x h => by simp at h⟩
  | x :: is, os, h => by
    cases x with
    | d _ => cases h
    | r m =>
      unfold secR at h
      split at h
      · rename_i nd h1
        split at h
        · rename_i k' h2
          obtain ⟨r, h3, rfl⟩ := Option.map_eq_some_iff.mp h
          obtain ⟨l, ih⟩ := secR_at h3
          refine ⟨by simp [l], fun k x hk => ?_⟩
          cases k with
          | zero =>
            simp at hk
            subst hk
            exact ⟨m, nd, k', rfl, h1, h2, rfl⟩
          | succ k =>
            obtain ⟨m', nd', k2, s1, s2, s3, s4⟩ := ih k x (by simpa using hk)
            exact ⟨m', nd', k2, s1, s2, s3, by simpa using s4⟩
        · cases h
      · cases h
end PD
set_option Elab.async false
set_option linter.all false
set_option maxRecDepth 100000
set_option maxHeartbeats 4000000
set_option autoImplicit false
namespace PD
open PySem L2
theorem sec_loop {X : Cx} {σ : St} {H : Hp} {l r c : Nat} {p : Addr} {vs us : List V} (hl : σ[l]? = some (some (.ref p))) (hp : H p = some (.lst vs)) (hrl : r ≠ l) (hr : r < σ.length) (hn : vs.length < sizeLine) (hul : us.length = vs.length)
    (hv : ∀ k, k < vs.length → ∃ q ws w, vs[k]? = some (V.ref q) ∧ H q = some (.lst ws) ∧ ws[c]? = some w ∧ us[k]? = some w) {Q : VK} (hq : ∀ D, H D = none → Q (.ref D) (upd H D (.lst us))) :
    tLc (iList X.K (tVar l)) (gName r) L2.tYes (tOp (rIxL X.K) (tVar r) (tC (.int (c : Int)))) [r] σ H Q := by
  refine ⟨.ref p, hl, p, rfl, ⟨vs, SqL.of hp⟩, fun D hD => ⟨fun k m H2 => m = vs.length - k ∧ k ≤ vs.length ∧ H2 = upd H D (.lst (us.take k)), ⟨_, rfl, Nat.zero_le _, rfl⟩, ?_⟩⟩
  rintro k m H2 ⟨rfl, hk, rfl⟩
  have hpD : p ≠ D := fun z => by rw [z, hD] at hp; cases hp
  have hp2 : upd H D (.lst (us.take k)) p = some (.lst vs) := by rw [upd_ne hpD]; exact hp
  have hww : L2.wipe (L2.wipe σ [r]) [r] = L2.wipe σ [r] := wipe_eq (ts := [r]) (wipe_length ..) (fun j hj => wipe_out hj) (fun j hj => hj)
  by_cases hlt : k < vs.length
  · obtain ⟨q, ws, w, h1, h2, h3, h4⟩ := hv k hlt
    have hqD : q ≠ D := fun z => by rw [z, hD] at h2; cases h2
    refine .inr ⟨⟨vs, vs[k], SqL.of hp2, List.getElem?_eq_getElem hlt⟩, fun H' => k + 1 ≤ vs.length ∧ H' = upd H D (.lst (us.take (k + 1))), fun H' hb => ⟨_, (by omega), rfl, hb⟩, fun x H3 y => ?_⟩
    obtain ⟨e3, hy⟩ := y
    have e3 := e3.symm
    subst e3
    have hx : x = .ref q := by
      have := hy vs (SqL.of hp2)
      rw [h1] at this
      exact (Option.some.inj this).symm
    subst hx
    have hw2 : L2.wipe ((L2.wipe σ [r]).set r (some (V.ref q))) [r] = L2.wipe σ [r] := (wipe_eq (ts := [r]) (List.length_set ..) (fun k hk => List.getElem?_set_ne (fun e => hk (by simp [e]))) (fun k hk => hk)).trans hww
    refine ⟨hw2, ?_⟩
    show (if true = true then _ else (fun H' => k + 1 ≤ vs.length ∧ H' = upd H D (.lst (us.take (k + 1)))) (upd H D (.lst (us.take k))))
    rw [if_pos rfl]
    refine ⟨.ref q, List.getElem?_set_self (by rw [wipe_length]; exact hr), q, ws, (c : Int), w, rfl, rfl, SqL.of (by rw [upd_ne hqD]; exact h2), at_natV h3, us.take k, upd_same, by rw [List.length_take]; omega, hlt, ?_⟩
    rw [List.take_add_one, h4]
    funext b
    by_cases z : b = D
    · subst z; rw [upd_same, upd_same]; rfl
    · rw [upd_ne z, upd_ne z, upd_ne z]
  · have ek : k = vs.length := by omega
    subst ek
    refine .inl ⟨⟨vs, SqL.of hp2, Nat.le_refl _⟩, ?_⟩
    rw [← hul, List.take_length]
    exact hq D hD
section
variable {X : Cx} {W : WX} {sc : Scope} {N : List Str} {x y z : Str} {scope : Scope} {own : List (Str × Nat)}
theorem ce_extC (C : Cf X W sc N) (i j l r c : Nat) {p apos cpos py pz pz2 cp sp pos : Pos} {kk : Nat} (hN : N[i]? = some x) (hv : visB sc x = true) (hNl : N[l]? = some y) (hvl : visB sc y = true) (ok : blkC N sc scope own = true) (ho : own.map (·.2) = [r])
    (hg : ∀ (s : Shared) (H : Hp) (c : Addr) (cl : List (Str × Addr)) (fp : List Addr), PG (X.blk s H scope (compEnvC scope cl c X.env) fp) (.Name z pz) (gName r))
    (he : ∀ (s : Shared) (H : Hp) (c : Addr) (cl : List (Str × Addr)) (fp : List Addr), PE (X.blk s H scope (compEnvC scope cl c X.env) fp) (.Name z pz2) (tVar r))
    (hix : ∀ (s : Shared) (H : Hp) (c0 : Addr) (cl : List (Str × Addr)) (fp : List Addr), PlainIx (.Constant (.int (c : Int)) kk cp) := by exact fun _ _ _ _ _ => fun _ _ => rfl)
    (hs : starEach [.ListComp (.Subscript (.Name z pz2) (.Constant (.int (c : Int)) kk cp) sp) [⟨.Name z pz, .Name y py, [], 0⟩] scope pos] X.env = (false, eval (.ListComp (.Subscript (.Name z pz2) (.Constant (.int (c : Int)) kk cp) sp) [⟨.Name z pz, .Name y py, [], 0⟩] scope pos) X.env) :: starEach [] X.env := by rfl)
    (hfs : ∀ q, foldedSetIterable (.Name y py) X.env q = pure q := by intro _; rfl)
    (hd : (x == ("__debug__" : Str)) = false := by decide +kernel) (hcd : (x == ("__classdict__" : Str)) = false := by decide +kernel)
    (hd2 : (y == ("__debug__" : Str)) = false := by decide +kernel) (hcd2 : (y == ("__classdict__" : Str)) = false := by decide +kernel) (hline : (apos.endLine == cpos.line) = true := by rfl)
    (hbase : attributeBase (.Name x p) "extend" X.env (eval (.Name x p) X.env) = eval (.Name x p) X.env := by rfl) : CE X W (.Call (.Attribute (.Name x p) "extend" apos) [.ListComp (.Subscript (.Name z pz2) (.Constant (.int (c : Int)) kk cp) sp) [⟨.Name z pz, .Name y py, [], 0⟩] scope pos] [] cpos) (dExtC i j l r c) := fun Γ => by
  have hB : BlkOk X.N X.env.scope scope own := by rw [C.hN, C.hsc]; exact blkOk_by ok
  unfold dExtC
  cases h0 : nodeA Γ i j with
  | none => exact ev_bad
  | some z0 =>
    refine pe_imp (pe_bm PySem.F.plainAttrs_list PySem.F.slot_list_extend PySem.F.type_list_extend mt_extend (pa_ref (W := W) (p := p) C.toCf0 h0 hN hv hd hcd) (pa_cons (pe_lc (g := gName r) (te := tOp (rIxL X.K) (tVar r) (tC (.int (c : Int)))) C.calm (by rw [C.hN]; exact C.nd) (pi_list (pe_var (by rw [C.hN]; exact hNl) (by rw [C.hsc]; exact vis_of hvl) hd2 hcd2)) hB hg (fun s H c cl fp => pts_nil) (fun s H c0 cl fp => pe_ix ix_list (he s H c0 cl fp) pe_int (hix s H c0 cl fp)) hfs) pa_nil hs) hbase (by rw [hs]; rfl) hline hs rfl) fun σ H Q ⟨G, S, pp⟩ => ⟨G, S, fun G1 H1 e1 v S1 hx => ?_⟩
    obtain ⟨A1, T1⟩ := id S1
    obtain ⟨a, ws, g1, g2, g3, g4⟩ := T1.node h0
    have hx : σ[i]? = some (some v) := hx
    rw [g2] at hx
    cases hx
    have pp : Pst X W G H σ ((R.ofO (nodeA Γ l j)).bind fun y => (R.ofO (secR z0.2.1 c y.2.2)).bind fun is => (R.req (decide (r < Γ.length ∧ r ≠ i ∧ r ≠ j ∧ r ≠ l) && (decide (y.2.2.length < sizeLine) && szB (z0.2.2 ++ is)))).bind fun _ => .val (AV.d true .none, (Γ.set r .un).set j (.pool (z0.2.1.set z0.1 (z0.2.2 ++ is))))) _ := pp
    obtain ⟨y1, hy, pp⟩ := Pst.ofO pp
    obtain ⟨os, hos, pp⟩ := Pst.ofO pp
    obtain ⟨hc, pp⟩ := Pst.req pp
    rw [Bool.and_eq_true, Bool.and_eq_true] at hc
    obtain ⟨hc1, hc2, hc3⟩ := hc
    obtain ⟨hrl0, hri, hrj, hrl⟩ := of_decide_eq_true hc1
    have hc2 := of_decide_eq_true hc2
    obtain ⟨b, vs, b1, b2, b3, b4⟩ := T1.node hy
    obtain ⟨ol, oat⟩ := secR_at hos
    have hns : y1.2.1 = z0.2.1 := by
      have q1 := (nodeA_ok hy).2.1
      have q2 := (nodeA_ok h0).2.1
      rw [q1] at q2
      exact Sl.pool.inj (Option.some.inj q2)
    -- what is chosen
    have hj0 := (nodeA_ok h0).2.1
    obtain ⟨p0, p1, p2, p3⟩ := T1.sl j _ hj0
    have key : ∀ k, k < vs.length → ∃ q us w k', vs[k]? = some (V.ref q) ∧ H1 q = some (.lst us) ∧ us[c]? = some w ∧ os[k]? = some (.r k') ∧ (A1 j)[k']? = (match w with | .ref a => some a | _ => none) ∧ (∃ a, w = .ref a) := fun k hk => by
      obtain ⟨x, hx⟩ : ∃ x, y1.2.2[k]? = some x := ⟨_, List.getElem?_eq_getElem (by rw [← b4.length]; exact hk)⟩
      obtain ⟨m, nd, k', rfl, s1, s2, s3⟩ := oat k x hx
      obtain ⟨q, r1, r2⟩ := b4.getR hx
      obtain ⟨q', us, t1, t2, t3⟩ := p3 m nd s1
      rw [r2] at t1
      cases t1
      obtain ⟨a', u1, u2⟩ := t3.getR s2
      exact ⟨q, us, .ref a', k', r1, t2, u1, s3, u2, a', rfl⟩
    have hus : ∃ us : List V, us.length = vs.length ∧ ∀ k, k < vs.length → ∃ q ws w k', vs[k]? = some (V.ref q) ∧ H1 q = some (.lst ws) ∧ ws[c]? = some w ∧ us[k]? = some w ∧ os[k]? = some (.r k') ∧ ∃ a, w = .ref a ∧ (A1 j)[k']? = some a := by
      have : ∀ n, n ≤ vs.length → ∃ us : List V, us.length = n ∧ ∀ k, k < n → ∃ q ws w k', vs[k]? = some (V.ref q) ∧ H1 q = some (.lst ws) ∧ ws[c]? = some w ∧ us[k]? = some w ∧ os[k]? = some (.r k') ∧ ∃ a, w = .ref a ∧ (A1 j)[k']? = some a := by
        intro n
        induction n with
        | zero => exact fun _ => ⟨[], rfl, fun k h => by omega⟩
        | succ n ih =>
          intro hn
          obtain ⟨us, hu1, hu2⟩ := ih (by omega)
          obtain ⟨q, ws', w, k', t1, t2, t3, t4, t5, a', rfl⟩ := key n (by omega)
          refine ⟨us ++ [.ref a'], by simp [hu1], fun k hk => ?_⟩
          by_cases e : k = n
          · subst e
            exact ⟨q, ws', .ref a', k', t1, t2, t3, by rw [List.getElem?_append_right (by omega), hu1, Nat.sub_self]; rfl, t4, a', rfl, t5⟩
          · obtain ⟨q2, ws2, w2, k2, s1, s2, s3, s4, s5⟩ := hu2 k (by omega)
            exact ⟨q2, ws2, w2, k2, s1, s2, s3, by rw [List.getElem?_append_left (by omega)]; exact s4, s5⟩
      exact this vs.length (Nat.le_refl _)
    obtain ⟨us, hul, hua⟩ := hus
    have hits : ItsOk X.K (RgN G1) H1 (A1 j) us os := by
      have : ∀ (us : List V) (os : List Itm), us.length = os.length → (∀ k, k < us.length → ∃ k' a, us[k]? = some (V.ref a) ∧ os[k]? = some (.r k') ∧ (A1 j)[k']? = some a) → ItsOk X.K (RgN G1) H1 (A1 j) us os := by
        intro us
        induction us with
        | nil =>
          intro os hl _
          have : os = [] := List.length_eq_zero_iff.mp (by simpa using hl.symm)
          subst this; exact .nil
        | cons u us ih =>
          intro os hl h
          cases os with
          | nil => simp at hl
          | cons o os =>
            obtain ⟨k', a', s1, s2, s3⟩ := h 0 (by simp)
            simp at s1 s2
            subst s1
            subst s2
            exact .r s3 (ih os (by simpa using hl) fun k hk => by
              obtain ⟨k', a', s1, s2, s3⟩ := h (k + 1) (by simpa using hk)
              exact ⟨k', a', by simpa using s1, by simpa using s2, s3⟩)
      refine this us os (by rw [hul, ol, b4.length]) fun k hk => ?_
      obtain ⟨_, _, w, k', _, _, _, t4, t5, a', rfl, t6⟩ := hua k (by omega)
      exact ⟨k', a', t4, t5, t6⟩
    have hlen : Γ.length = σ.length := T1.len
    refine ⟨.inl ⟨rfl, ws, SqL.of g3⟩, ?_⟩
    show tLc (iList X.K (tVar l)) (gName r) L2.tYes (tOp (rIxL X.K) (tVar r) (tC (.int (c : Int)))) (own.map (·.2)) σ H1 _
    rw [ho]
    refine sec_loop b2 b3 hrl (by omega) (by rw [b4.length]; exact hc2) hul (fun k hk => by
      obtain ⟨q, ws', w, _, t1, t2, t3, t4, _⟩ := hua k hk
      exact ⟨q, ws', w, t1, t2, t3, t4⟩) fun D hD => ?_
    obtain ⟨T4, e4⟩ := T1.growA (grow_own (o := .lst us) T1.w hD)
    obtain ⟨a2, ws2, k1, k2, k3, k4⟩ := T4.node h0
    rw [g2] at k2
    cases k2
    have haD : a ≠ D := fun e => by rw [e, hD] at g3; cases g3
    have hw2 : ws2 = ws := by
      rw [upd_ne haD, g3] at k3
      cases k3; rfl
    subst hw2
    obtain ⟨T5, e5⟩ := T4.mutNode hj0 k1 (vs' := ws2 ++ us) (nd' := z0.2.2 ++ os) (k4.append (hits.mono e4.n e4.t))
    have S5 := Sta.forget (⟨A1, T5⟩ : Sta X.K _ _ σ _) r
    rw [List.set_comm _ _ (Ne.symm hrj)] at S5
    refine ⟨a, D, ws2, us, rfl, rfl, by rw [upd_ne haD]; exact g3, upd_same, ?_, pp _ _ (e1.tr (e4.tr e5)) .non S5 .non⟩
    have h3 : (z0.2.2 ++ os).length ≤ sizeLine := of_decide_eq_true hc3
    rw [List.length_append] at h3
    have h4 := g4.length
    have h5 := b4.length
    omega
end
end PD
set_option Elab.async false
set_option linter.all false
set_option maxRecDepth 100000
set_option maxHeartbeats 4000000
set_option autoImplicit false
namespace PD
open PySem L2
def gT2L (g1 g2 : DG) : DG := fun fr d Γ => match d with
  | .list [a, b] => (g1 fr a Γ).bind fun Γ1 => g2 fr b Γ1
  | _ => none
theorem cg_tup2L {X : Cx} {W : WX} {sc : Scope} {N : List Str} (C : Cf X W sc N) {t1 t2 : Expr} {kk : Nat} {p : Pos} {g1 g2 : DG} {ts1 ts2 : List Nat} (h1 : CG X t1 ts1 g1) (h2 : CG X t2 ts2 g2)
    (hn : (assignEach [t1, t2] X.env).length = 2 := by rfl) (hst : (assignEach [t1, t2] X.env).findIdx? (·.1) = none := by rfl) (hs1 : (assignEach [t1, t2] X.env).map (·.2) = assign t1 X.env :: (assignEach [t2] X.env).map (·.2) := by rfl) (hs2 : (assignEach [t2] X.env).map (·.2) = assign t2 X.env :: (assignEach [] X.env).map (·.2) := by rfl) :
    CG X (.Tuple [t1, t2] kk p) (ts1 ++ ts2) (gT2L g1 g2) := by
  refine pg_imp (pg_lst (n := 2) C.calm (pgs_cons h1 (pgs_cons h2 pgs_nil hs2) hs1) hn hst) fun v σ H Q ⟨G, Γ, fr, d, Γ', S, h, e, k⟩ => ?_
  unfold gT2L at e
  split at e
  · rename_i a b
    cases h with
    | lst hq hd =>
      have hq := (hq.mono (S.w.rgl fr)).sq
      cases hd with
      | cons d1 r1 =>
        cases r1 with
        | cons d2 r2 =>
          cases r2
          cases e1 : g1 fr a Γ with
          | none => rw [e1] at e; cases e
          | some Γ1 =>
            rw [e1] at e
            exact ⟨_, _, rfl, hq, rfl, _, _, rfl, G, Γ, fr, a, Γ1, S, d1, e1, fun σ1 l1 k1 S1 => ⟨_, _, rfl, G, Γ1, fr, b, Γ', S1, d2, e, fun σ2 l2 k2 S2 => ⟨rfl, k _ (l2.trans l1) (fun j hj => (k2 j fun z => hj (by simp [z])).trans (k1 j fun z => hj (by simp [z]))) S2⟩⟩⟩
  · cases e
end PD
set_option Elab.async false
set_option linter.all false
set_option maxRecDepth 100000
set_option maxHeartbeats 4000000
set_option autoImplicit false
namespace PD
open PySem L2
def rNeE (K : PySem.W.Frag) : R2 := fun x y H Q => ∃ d e, Dp K H x d ∧ Dp K H y e ∧ d.canLay0 = true ∧ e.canLay0 = true ∧ min d.depth e.depth ≤ 64 ∧ Q (.bl (!PyData.eqv d e)) H
theorem op_neE {X : Cx} (hu : X.A.units + 64 < cLine) : OpR X (compareOp .NotEq) (rNeE X.K) := by
  intro pins s σ H x y v u Q I rx ry h
  obtain ⟨d, e, hd, he, sd, se, hm, q⟩ := h
  obtain ⟨as, r1⟩ := Dp.reads I d x v hd rx
  obtain ⟨bs, r2⟩ := Dp.reads I e y u he ry
  exact SeqAt.compareNe_reads r1 r2 sd se (by omega) ⟨.bl _, H, I, rfl, q⟩
def kNeE (Γ : List Sl) (x y : AV) : R Bool := match rdD Γ x, rdD Γ y with
  | some p, some q => gq (p.canLay0 && q.canLay0 && decide (min p.depth q.depth ≤ 64)) (!PyData.eqv p q)
  | _, _ => .bad
section
variable {X : Cx} {W : WX} {sc : Scope} {N : List Str} {a b : Expr} {pos : Pos} {f g : DF}
theorem ce_neE (C : Cf0 X W sc N) (ha : CE X W a f) (hb : CE X W b g) (hm : behindInMarks .NotEq b = false := by first | exact nobehind _ (by decide) (by decide) | rfl) : CE X W (.Compare a [.NotEq] [b] pos) (dCmp kNeE f g) :=
  ce_cmp2 (fun x y Γ2 => boolR (kNeE Γ2 x y) Γ2) (op_neE C.hu) hm ha hb fun x y Γ2 G H σ u v Q S hu hv p => by
    unfold kNeE at p
    split at p
    · rename_i d z h1 h2
      rcases gq_cases (d.canLay0 && z.canLay0 && decide (min d.depth z.depth ≤ 64)) (!PyData.eqv d z) with e | ⟨hc, e⟩
      · rw [e] at p; exact p.elim
      · rw [e] at p
        rw [Bool.and_eq_true, Bool.and_eq_true] at hc
        exact ⟨d, z, ((rdD_ok h1).ok S hu).dp hc.1.1, ((rdD_ok h2).ok S hv).dp hc.1.2, hc.1.1, hc.1.2, of_decide_eq_true hc.2, Pk.v p S (.bl _)⟩
    · exact p.elim
end
end PD
set_option Elab.async false
set_option linter.all false
set_option maxRecDepth 100000
set_option maxHeartbeats 0
namespace PDW
open PySem PySem.Spec PyProof.Rows L2 PD
def top (i : Nat) : Stmt := PySem.Challenge.pw_badbegins_k72_depths.main.body.getD i (.Pass ⟨0, 0, 0, 0⟩)
def dd0 : He.DefD := ⟨("law", none), "law", "law", defArgs (top 10), defBody (top 10), defScope (top 10), [], []⟩
def dd1 : He.DefD := ⟨("_law_pen", none), "_law_pen", "_law_pen", defArgs (top 3), defBody (top 3), defScope (top 3), [], []⟩
def dd2 : He.DefD := ⟨("_law_grown", none), "_law_grown", "_law_grown", defArgs (top 7), defBody (top 7), defScope (top 7), [], []⟩
def dd3 : He.DefD := ⟨("_law_take", none), "_law_take", "_law_take", defArgs (top 4), defBody (top 4), defScope (top 4), [], []⟩
def dd4 : He.DefD := ⟨("_law_left", none), "_law_left", "_law_left", defArgs (top 5), defBody (top 5), defScope (top 5), [], []⟩
def dd5 : He.DefD := ⟨("_law_answers", none), "_law_answers", "_law_answers", defArgs (top 6), defBody (top 6), defScope (top 6), [], []⟩
def dd6 : He.DefD := ⟨("_law_plan", none), "_law_plan", "_law_plan", defArgs (top 8), defBody (top 8), defScope (top 8), [], []⟩
def dd7 : He.DefD := ⟨("depth_of", none), "depth_of", "depth_of", defArgs (top 1), defBody (top 1), defScope (top 1), [], []⟩
def dd8 : He.DefD := ⟨("_law_most", none), "_law_most", "_law_most", defArgs (top 9), defBody (top 9), defScope (top 9), [], []⟩
def fnD : List He.DefD := [dd0, dd1, dd2, dd3, dd4, dd5, dd6, dd7, dd8]
def faD : List He.Fa := ([.glo "law", .glo "_law_pen", .glo "_law_grown", .glo "_law_take", .glo "_law_left", .glo "_law_answers", .glo "_law_plan", .glo "depth_of", .glo "_law_most", .free "range", .free "len", .free "tuple"] : List He.Fa) ++ ([.free "max", .free "isinstance", .free "int", .free "bool"] : List He.Fa)
abbrev RR : PySem.W.OpenRow := PySem.W.OpenLaw.row PySem.Challenge.rw_badbegins_k72_depths
abbrev hkD : PySem.W.Hook := He.hookD 4 faD fnD
def obD (z : PySem.W.SharedT) : He.AlD := He.obsDG 4 faD fnD (HandSHeadRun.getT z)
theorem obD_eq (z : PySem.W.SharedT) : obD z = hkD.obs z.abs := He.obsDG_eq (HandSHeadRun.getT_eq z)
def looseD : List Str := (["depth_of", "_law_pen", "_law_take", "_law_left", "_law_answers", "_law_grown", "_law_plan", "_law_most"] : List Str)
theorem runD (w : World) : HandSHeadRun.RunEq RR (PySem.W.view RR.prog [10]) hkD obD 4000 looseD w := by
  intro os
  kernel_rfl
end PDW
set_option linter.all false
set_option maxRecDepth 100000
set_option autoImplicit false
namespace PD
open PySem L2
def Ok {α : Type} (m : R α) (P : α → Prop) : Prop := ∃ a, m = .val a ∧ P a
section
variable {α β : Type} {P : α → Prop} {Q : β → Prop}
theorem ok_val {a : α} (h : P a) : Ok (.val a) P := ⟨a, rfl, h⟩
theorem ok_bind {m : R α} {k : α → R β} (h : Ok m P) (hk : ∀ a, P a → Ok (k a) Q) : Ok (m.bind k) Q := by
  obtain ⟨a, rfl, p⟩ := h
  exact hk a p
theorem Ok.mono {P' : α → Prop} {m : R α} (h : Ok m P) (hk : ∀ a, P a → P' a) : Ok m P' := by
  obtain ⟨a, e, p⟩ := h
  exact ⟨a, e, hk a p⟩
theorem ok_of {m : R α} {a : α} (h : m = .val a) (p : P a) : Ok m P := ⟨a, h, p⟩
theorem ok_eq {m : R α} {a : α} (h : Ok m fun z => z = a) : m = .val a := by
  obtain ⟨b, e, rfl⟩ := h
  exact e
end
theorem bind_val {α β : Type} (a : α) (k : α → R β) : (R.val a).bind k = k a := rfl
theorem req_true : R.req true = .val () := rfl
theorem ofO_some {α : Type} (a : α) : R.ofO (some a) = .val a := rfl
theorem gq_of {α : Type} {c : Bool} (a : α) (h : c = true) : gq c a = .val a := by subst h; rfl
theorem ok_loopU {is : List Nat} {g : DG} {fr : Bool} {b : DS} {Post : Fw × List Sl → Prop} (Inv : Nat → List Sl → Prop) (ds : List PyData) {Γ : List Sl} (h0 : Inv 0 (wipeG Γ is))
    (hb : ∀ i d Γ, ds[i]? = some d → Inv i Γ → ∃ Γ1, g fr d Γ = some Γ1 ∧ Ok (b Γ1) fun z => match z.1 with
      | .nx => Inv (i + 1) (wipeG z.2 is)
      | .ct => Inv (i + 1) (wipeG z.2 is)
      | .bk => Post (.nx, wipeG z.2 is)
      | .rt r => Post (.rt r, z.2)) (hd : ∀ Γ, Inv ds.length Γ → Post (.nx, Γ)) : Ok (loopU is g fr b ds Γ) Post := by
  have key : ∀ (n : Nat) (xs : List PyData) (Γ : List Sl), (∀ j, xs[j]? = ds[n + j]?) → n + xs.length = ds.length → Inv n (wipeG Γ is) → Ok (loopU is g fr b xs Γ) Post := by
    intro n xs
    induction xs generalizing n with
    | nil =>
      intro Γ _ hl h
      unfold loopU
      refine ok_val (hd _ ?_)
      have : ds.length = n := by simpa using hl.symm
      rw [this]; exact h
    | cons d xs ih =>
      intro Γ hx hl h
      unfold loopU
      obtain ⟨Γ1, e1, o⟩ := hb n d _ (by have := hx 0; simpa using this.symm) h
      rw [e1, ofO_some, bind_val]
      refine ok_bind o fun z hz => ?_
      obtain ⟨w, Γ2⟩ := z
      have hx' : ∀ j, xs[j]? = ds[n + 1 + j]? := fun j => by
        have := hx (j + 1)
        simp only [List.getElem?_cons_succ] at this
        rw [this]; congr 1; omega
      cases w with
      | nx => exact ih (n + 1) Γ2 hx' (by simp at hl; omega) hz
      | ct => exact ih (n + 1) Γ2 hx' (by simp at hl; omega) hz
      | bk => exact ok_val hz
      | rt r => exact ok_val hz
  exact key 0 ds Γ (fun j => by simp) (by simp) h0
theorem ok_loopW {is : List Nat} {c : DT} {b : DS} {Post : Fw × List Sl → Prop} (Inv : Nat → List Sl → Prop)
    (hb : ∀ n Γ, Inv n Γ → Ok (c Γ) fun x => if x.1 then Ok (b x.2) fun z => match z.1 with
      | .nx => ∃ m, m < n ∧ Inv m (wipeG z.2 is)
      | .ct => ∃ m, m < n ∧ Inv m (wipeG z.2 is)
      | .bk => Post (.nx, wipeG z.2 is)
      | .rt r => Post (.rt r, z.2) else Post (.nx, x.2)) : ∀ (fuel n : Nat) (Γ : List Sl), n < fuel → Inv n (wipeG Γ is) → Ok (loopW is c b fuel Γ) Post := by
  intro fuel
  induction fuel with
  | zero => intro n Γ h; omega
  | succ f ih =>
    intro n Γ hn h
    unfold loopW
    refine ok_bind (hb n _ h) fun x hx => ?_
    by_cases e : x.1 = true
    · rw [if_pos e] at hx ⊢
      refine ok_bind hx fun z hz => ?_
      obtain ⟨w, Γ2⟩ := z
      cases w with
      | nx => obtain ⟨m, h1, h2⟩ := hz; exact ih m Γ2 (by omega) h2
      | ct => obtain ⟨m, h1, h2⟩ := hz; exact ih m Γ2 (by omega) h2
      | bk => exact ok_val hz
      | rt r => exact ok_val hz
    · rw [if_neg e] at hx ⊢
      exact ok_val hx
theorem ok_compU {vs : List Nat} {g : DG} {fr : Bool} {t : DT} {e : DF} {Post : List PyData × List Sl → Prop} (Inv : Nat → List PyData → List Sl → Prop) (ds : List PyData) {Γ : List Sl} (h0 : Inv 0 [] Γ)
    (hb : ∀ i d out Γ, ds[i]? = some d → Inv i out Γ → ∃ Γ1, g fr d Γ = some Γ1 ∧ Ok (t Γ1) fun x => if x.1 then Ok (e x.2) fun y => ∃ o, avD y.1 = some o ∧ Inv (i + 1) (out ++ [o]) (wipeG y.2 vs) else Inv (i + 1) out (wipeG x.2 vs))
    (hd : ∀ out Γ, Inv ds.length out Γ → Post (out, Γ)) : Ok (compU vs g fr t e ds Γ) Post := by
  have key : ∀ (n : Nat) (xs : List PyData) (pre : List PyData) (Γ : List Sl), (∀ j, xs[j]? = ds[n + j]?) → n + xs.length = ds.length → Inv n pre Γ → Ok (compU vs g fr t e xs Γ) fun z => Post (pre ++ z.1, z.2) := by
    intro n xs
    induction xs generalizing n with
    | nil =>
      intro pre Γ _ hl h
      unfold compU
      refine ok_val ?_
      have : ds.length = n := by simpa using hl.symm
      show Post (pre ++ [], Γ)
      rw [List.append_nil]
      exact hd _ _ (by rw [this]; exact h)
    | cons d xs ih =>
      intro pre Γ hx hl h
      rw [compU_cons]
      obtain ⟨Γ1, e1, o⟩ := hb n d pre Γ (by have := hx 0; simpa using this.symm) h
      have hx' : ∀ j, xs[j]? = ds[n + 1 + j]? := fun j => by
        have := hx (j + 1)
        simp only [List.getElem?_cons_succ] at this
        rw [this]; congr 1; omega
      rw [e1]
      obtain ⟨x, ex, ox⟩ := o
      rw [ofO_some, bind_val, ex]
      show Ok (if x.1 then _ else _) _
      by_cases hc : x.1 = true
      · rw [if_pos hc] at ox ⊢
        obtain ⟨y, ey, w, ew, hw⟩ := ox
        rw [ey]
        show Ok ((R.ofO (avD y.1)).bind _) _
        rw [ew, ofO_some, bind_val]
        refine ok_bind (ih (n + 1) (pre ++ [w]) _ hx' (by simp at hl; omega) hw) fun r hr => ok_val ?_
        show Post (pre ++ w :: r.1, r.2)
        have : pre ++ w :: r.1 = pre ++ [w] ++ r.1 := by simp
        rw [this]; exact hr
      · rw [if_neg hc] at ox ⊢
        exact ih (n + 1) pre _ hx' (by simp at hl; omega) ox
  have := key 0 ds [] Γ (fun j => by simp) (by simp) h0
  refine this.mono fun z hz => ?_
  simpa using hz
end PD
set_option linter.all false
set_option maxRecDepth 100000
set_option autoImplicit false
namespace PD
open PySem L2
section
variable {Γ Γ1 Γ2 Γ3 : List Sl} {f g h : DF} {k : DA} {n : DN} {c : DC} {t t2 : DT} {fr fr2 : Bool} {d : PyData} {i j : Int} {z z2 : Bool} {ds es : List PyData} {a b : AV} {as : List AV}
theorem e_var {m : Nat} (e : Γ[m]? = some (.dat fr d)) : dVar m Γ = .val (.d fr d, Γ) := by unfold dVar; rw [e]
theorem e_varO {m : Nat} {c : Cl} (e : Γ[m]? = some (.own c)) : dVar m Γ = .val (.s m, Γ) := by unfold dVar; rw [e]
theorem e_varI {m : Nat} {c : Cl} (e : Γ[m]? = some (.io c)) : dVar m Γ = .val (.s m, Γ) := by unfold dVar; rw [e]
theorem e_C : dC d Γ = .val (.d true d, Γ) := rfl
theorem e_I {kk : Int → Int → R Int} {r : Int} (h1 : f Γ = .val (.d fr (.int i), Γ1)) (h2 : g Γ1 = .val (.d fr2 (.int j), Γ2)) (h3 : kk i j = .val r) : dI kk f g Γ = .val (.d true (.int r), Γ2) := by
  unfold dI; rw [h1, bind_val, h2, bind_val]; simp only; rw [h3, bind_val]
theorem k_sub : kSub i j = .val (i - j) := rfl
theorem k_and : kAnd i j = .val (Builtin.bitAnd i j) := rfl
theorem k_or : kOr i j = .val (Builtin.bitOr i j) := rfl
theorem k_mul (e : cMulX i j = true) : kMul i j = .val (i * j) := gq_of _ e
theorem k_div (e : cDiv i j = true) : kDiv i j = .val (i / j) := gq_of _ e
theorem k_mod (e : cMod i j = true) : kMod i j = .val (i % j) := gq_of _ e
theorem k_pow (e : cPow i j = true) : kPow i j = .val (i ^ j.toNat) := gq_of _ e
theorem k_shl (e : cShl i j = true) : kShl i j = .val (i * 2 ^ j.toNat) := gq_of _ e
theorem k_shr (e : cShr i j = true) : kShr i j = .val (i / 2 ^ j.toNat) := gq_of _ e
theorem e_add (h1 : f Γ = .val (.d fr (.int i), Γ1)) (h2 : g Γ1 = .val (.d fr2 (.int j), Γ2)) : dAdd f g Γ = .val (.d true (.int (i + j)), Γ2) := by
  unfold dAdd; rw [h1, bind_val, h2, bind_val]; rfl
theorem e_neg (h1 : f Γ = .val (.d fr (.int i), Γ1)) : dNeg f Γ = .val (.d true (.int (-i)), Γ1) := by
  unfold dNeg; rw [h1, bind_val]
theorem e_cmp {kk : List Sl → AV → AV → R Bool} (h1 : f Γ = .val (a, Γ1)) (h2 : g Γ1 = .val (b, Γ2)) (h3 : kk Γ2 a b = .val z) : dCmp kk f g Γ = .val (.d true (.bool z), Γ2) := by
  unfold dCmp boolR; rw [h1, bind_val, h2, bind_val, h3, bind_val]
theorem k_eqI : kEq Γ (.d fr (.int i)) (.d fr2 (.int j)) = .val (decide (i = j)) := by unfold kEq rdD; exact gq_of _ rfl
theorem k_neI : kNe Γ (.d fr (.int i)) (.d fr2 (.int j)) = .val (!decide (i = j)) := by unfold kNe; rw [k_eqI]; rfl
theorem k_eq {p q : PyData} (h1 : rdD Γ a = some p) (h2 : rdD Γ b = some q) (s1 : SeqAt.shaped p = true) (s2 : SeqAt.shaped q = true) (e : PyData.eqv p q = z) : kEq Γ a b = .val z := by
  unfold kEq; rw [h1, h2]; simp only [s1, s2, Bool.and_true]; rw [e]; rfl
theorem k_ne {p q : PyData} (h1 : rdD Γ a = some p) (h2 : rdD Γ b = some q) (s1 : SeqAt.shaped p = true) (s2 : SeqAt.shaped q = true) (e : PyData.eqv p q = z) : kNe Γ a b = .val (!z) := by
  unfold kNe; rw [k_eq h1 h2 s1 s2 e]; rfl
theorem k_I {r : Int → Int → Bool} : kI r Γ (.d fr (.int i)) (.d fr2 (.int j)) = .val (r i j) := rfl
theorem t_tst (h1 : f Γ = .val (.d fr (.bool z), Γ1)) : dTst f Γ = .val (z, Γ1) := by unfold dTst; rw [h1]; rfl
theorem t_not (h1 : t Γ = .val (z, Γ1)) : dTnot t Γ = .val (!z, Γ1) := by unfold dTnot; rw [h1]; rfl
theorem t_or (h1 : t Γ = .val (z, Γ1)) (h2 : z = false → t2 Γ1 = .val (z2, Γ1)) : dTor t t2 Γ = .val (z || z2, Γ1) := by
  unfold dTor; rw [h1, bind_val]
  cases z with
  | true => rfl
  | false =>
    show ((t2 Γ1).bind fun y => R.val y) = _
    rw [h2 rfl]; rfl
theorem t_and (h1 : t Γ = .val (z, Γ1)) (h2 : z = true → t2 Γ1 = .val (z2, Γ1)) : dTand t t2 Γ = .val (z && z2, Γ1) := by
  unfold dTand; rw [h1, bind_val]
  cases z with
  | false => rfl
  | true =>
    show ((t2 Γ1).bind fun y => R.val y) = _
    rw [h2 rfl]; rfl
theorem e_not (h1 : f Γ = .val (.d fr (.bool z), Γ1)) : dNot f Γ = .val (.d true (.bool (!z)), Γ1) := by unfold dNot; rw [h1]; rfl
theorem e_and (h1 : f Γ = .val (.d fr (.bool z), Γ1)) (h2 : z = true → g Γ1 = .val (.d fr2 (.bool z2), Γ1)) : dAnd f g Γ = .val (.d true (.bool (z && z2)), Γ1) := by
  unfold dAnd; rw [h1, bind_val]
  cases z with
  | false => rfl
  | true => show ((g Γ1).bind _) = _; rw [h2 rfl]; rfl
theorem e_or (h1 : f Γ = .val (.d fr (.bool z), Γ1)) (h2 : z = false → g Γ1 = .val (.d fr2 (.bool z2), Γ1)) : dOr f g Γ = .val (.d true (.bool (z || z2)), Γ1) := by
  unfold dOr; rw [h1, bind_val]
  cases z with
  | true => rfl
  | false => show ((g Γ1).bind _) = _; rw [h2 rfl]; rfl
theorem a_nil : dA0 Γ = .val ([], Γ) := rfl
theorem a_cons (h1 : f Γ = .val (a, Γ1)) (h2 : k Γ1 = .val (as, Γ2)) : dAc f k Γ = .val (a :: as, Γ2) := by unfold dAc; rw [h1, bind_val, h2]; rfl
theorem e_frz (h1 : f Γ = .val (.d true d, Γ1)) : dFrz f Γ = .val (.d true d, Γ1) := by unfold dFrz; rw [h1]; rfl
theorem e_frzF (h1 : f Γ = .val (.d false d, Γ1)) : dFrz f Γ = .val (.d (flat d) d, Γ1) := by unfold dFrz; rw [h1]; rfl
theorem e_frzD (h1 : f Γ = .val (.d fr d, Γ1)) : dFrz f Γ = .val (.d (fr || flat d) d, Γ1) := by
  cases fr with
  | true => exact e_frz h1
  | false => rw [Bool.false_or]; exact e_frzF h1
theorem n_lst (h1 : k Γ = .val (as, Γ1)) (h2 : allT as = some ds) (h3 : szB as = true) : dLst k Γ = .val (ds, Γ1) := by
  unfold dLst; rw [h1, bind_val]; simp only [h2]; exact gq_of _ h3
theorem e_tup (h1 : k Γ = .val (as, Γ1)) (h2 : allF as = some (ds, fr)) (h3 : szB as = true) : dTup k Γ = .val (.d fr (.tuple ds), Γ1) := by
  unfold dTup; rw [h1, bind_val]; simp only [h2]; exact gq_of _ h3
theorem e_ofN (h1 : n Γ = .val (ds, Γ1)) : dOfN n Γ = .val (.d true (.list ds), Γ1) := by unfold dOfN; rw [h1]; rfl
theorem c_l (h1 : n Γ = .val (ds, Γ1)) : nL n Γ = .val (.lst ds, Γ1) := by unfold nL; rw [h1]; rfl
theorem x_c {cl : Cl} (h1 : c Γ = .val (cl, Γ1)) : xC c Γ = .val (.c cl, Γ1) := by unfold xC; rw [h1]; rfl
theorem e_xd {x : DX} (h1 : x Γ = .val (.d d, Γ1)) : eX x Γ = .val (.d true d, Γ1) := by unfold eX; rw [h1]; rfl
theorem e_xc {x : DX} (h1 : x Γ = .val (.c (.lst ds), Γ1)) : eX x Γ = .val (.d true (.list ds), Γ1) := by unfold eX; rw [h1]; rfl
theorem e_ixL (h1 : f Γ = .val (.d fr (.list ds), Γ1)) (h2 : g Γ1 = .val (.d fr2 (.int i), Γ2)) (h3 : atI ds i = some d) : dIxB f g Γ = .val (.d fr d, Γ2) := by
  unfold dIxB; rw [h1, bind_val, h2, bind_val]; unfold ixB dicA ixA; simp only [h3]; rfl
theorem e_ixT (h1 : f Γ = .val (.d fr (.tuple ds), Γ1)) (h2 : g Γ1 = .val (.d fr2 (.int i), Γ2)) (h3 : atI ds i = some d) : dIxB f g Γ = .val (.d fr d, Γ2) := by
  unfold dIxB; rw [h1, bind_val, h2, bind_val]; unfold ixB dicA ixA; simp only [h3]; rfl
theorem e_ixS {m : Nat} (h1 : f Γ = .val (.s m, Γ1)) (h2 : g Γ1 = .val (.d fr2 (.int i), Γ2)) (h4 : rdD Γ2 (.s m) = some (.list ds)) (h3 : atI ds i = some d) : dIxB f g Γ = .val (.d true d, Γ2) := by
  unfold dIxB; rw [h1, bind_val, h2, bind_val]
  have e : dicA Γ2 (.s m) = none := by
    unfold rdD at h4
    unfold dicA
    simp only at h4 ⊢
    split at h4 <;> simp_all
  show (ixB Γ2 (.s m) (.d fr2 (.int i))).bind _ = _
  unfold ixB
  rw [e]
  simp only [ixA, h4, h3]
  rfl
theorem e_B {q : List Sl → List AV → R AV} (h1 : k Γ = .val (as, Γ1)) (h2 : q Γ1 as = .val a) : dB q k Γ = .val (a, Γ1) := by unfold dB; rw [h1, bind_val, h2]; rfl
theorem n_B {q : List Sl → List AV → R (List PyData)} (h1 : k Γ = .val (as, Γ1)) (h2 : q Γ1 as = .val ds) : dBN q k Γ = .val (ds, Γ1) := by unfold dBN; rw [h1, bind_val, h2]; rfl
theorem k_lenL (h : rdD Γ a = some (.list ds)) : kLen Γ [a] = .val (.d true (.int (ds.length : Nat))) := by unfold kLen; simp only [h]
theorem k_lenT (h : rdD Γ a = some (.tuple ds)) : kLen Γ [a] = .val (.d true (.int (ds.length : Nat))) := by unfold kLen; simp only [h]
theorem x_call {m : List Ar → R (Rs × List Sl)} {dds : List PyData} {r : Rs} {Z : List Sl} (h1 : k Γ = .val (as, Γ1)) (h2 : rdDs Γ1 none as = some ds) (h3 : m ((ds ++ dds).map Ar.d) = .val (r, Z)) : xCall m dds k Γ = .val (r, Γ1) := by
  unfold xCall; rw [h1, bind_val, h2, ofO_some, bind_val, h3]; rfl
theorem x_callC {m : List Ar → R (Rs × List Sl)} {dds : List PyData} {r : Rs} {Z : List Sl} {p q : Nat} {ic : Bool × Cl} {cl : Cl} (h1 : k Γ = .val (as, Γ1)) (h2 : pickC p as = some q) (h3 : cellAt Γ1 q = some ic) (h4 : rdDs Γ1 (some q) (as.eraseIdx p) = some ds) (h5 : ic.2.fl = true) (h6 : m (insC p ic.2 (ds ++ dds)) = .val (r, Z)) (h7 : ioAt p Z = some cl) :
    xCallC m p dds k Γ = .val (r, Γ1.set q (mkS ic.1 cl)) := by
  unfold xCallC; rw [h1, bind_val]; unfold preC; rw [h2, ofO_some, bind_val, h3, ofO_some, bind_val, h4, ofO_some, bind_val, h5]
  show ((m (insC p ic.2 (ds ++ dds))).atC p Γ1 q ic.1).bind _ = _
  rw [h6]
  show ((R.ofO (ioAt p Z)).bind _).bind _ = _
  rw [h7]
  rfl
theorem i_seqL (h1 : f Γ = .val (.d fr (.list ds), Γ1)) : iSeq f Γ = .val ((ds, fr), Γ1) := by unfold iSeq; rw [h1]; rfl
theorem i_seqT (h1 : f Γ = .val (.d fr (.tuple ds), Γ1)) : iSeq f Γ = .val ((ds, fr), Γ1) := by unfold iSeq; rw [h1]; rfl
theorem i_enumL (h1 : f Γ = .val (.d fr (.list ds), Γ1)) : iEnum f Γ = .val ((enumD ds, fr), Γ1) := by unfold iEnum; rw [h1]; rfl
theorem i_enumT (h1 : f Γ = .val (.d fr (.tuple ds), Γ1)) : iEnum f Γ = .val ((enumD ds, fr), Γ1) := by unfold iEnum; rw [h1]; rfl
theorem i_range1 (h1 : f Γ = .val (.d fr (.int j), Γ1)) (h2 : cRng 0 j = true) : iRange1 f Γ = .val (((rng 0 j).map PyData.int, true), Γ1) := by unfold iRange1; rw [h1, bind_val]; exact gq_of _ h2
theorem i_range2 (h1 : f Γ = .val (.d fr (.int i), Γ1)) (h3 : g Γ1 = .val (.d fr2 (.int j), Γ2)) (h2 : cRng i j = true) : iRange2 f g Γ = .val (((rng i j).map PyData.int, true), Γ2) := by unfold iRange2; rw [h1, bind_val, h3, bind_val]; exact gq_of _ h2
theorem n_lrng1 (h1 : f Γ = .val (.d fr (.int j), Γ1)) (h2 : cLrg 0 j = true) : dLrng1 f Γ = .val ((rng 0 j).map PyData.int, Γ1) := by unfold dLrng1; rw [h1, bind_val]; exact gq_of _ h2
theorem n_lrng2 (h1 : f Γ = .val (.d fr (.int i), Γ1)) (h3 : g Γ1 = .val (.d fr2 (.int j), Γ2)) (h2 : cLrg i j = true) : dLrng2 f g Γ = .val ((rng i j).map PyData.int, Γ2) := by unfold dLrng2; rw [h1, bind_val, h3, bind_val]; exact gq_of _ h2
theorem e_isi {ts : List Tn} (h1 : f Γ = .val (a, Γ1)) (h2 : rdD Γ1 a = some d) (h3 : noDct d = true) : dIsi ts f Γ = .val (.d true (.bool (ts.any fun t => tyIs d t)), Γ1) := by
  unfold dIsi; rw [h1, bind_val]; simp only [h2]; exact gq_of _ h3
theorem e_app {m : Nat} {io : Bool} (h0 : cellL Γ m = some (io, es)) (h1 : f Γ = .val (.d true d, Γ1)) (h2 : cellL Γ1 m = some (io, ds)) (h3 : ltS ds = true) : dLm m qAppend (dAc (dFrz f) dA0) Γ = .val (.d true .none, Γ1.set m (mkS io (.lst (ds ++ [d])))) := by
  unfold dLm
  rw [h0, ofO_some, bind_val, a_cons (e_frz h1) a_nil, bind_val, h2, ofO_some, bind_val]
  show ((qAppend ds [.d true d]).bind _) = _
  unfold qAppend
  simp only [h3]
  rfl
end
def W (b : DS) (Γ : List Sl) (P : Fw → List Sl → Prop) : Prop := Ok (b Γ) fun z => P z.1 z.2
section
variable {Γ Γ1 Γ2 : List Sl} {f g : DF} {b r r2 : DS} {x : DX} {n : DC} {t : DT} {fr z : Bool} {d : PyData} {P : Fw → List Sl → Prop} {m : Nat}
theorem w_nil (h : P .nx Γ) : W bNil Γ P := ok_val h
theorem w_seq (h : W b Γ fun w Γ1 => match w with
    | .nx => W r Γ1 P
    | w => P w Γ1) : W (bSeq b r) Γ P := by
  unfold W bSeq
  refine ok_bind h fun z hz => ?_
  obtain ⟨w, Γ1⟩ := z
  cases w with
  | nx => exact hz
  | bk => exact ok_val hz
  | ct => exact ok_val hz
  | rt r => exact ok_val hz
theorem w_one (h : ∃ Γ1, b Γ = .val (.nx, Γ1) ∧ W r Γ1 P) : W (bSeq b r) Γ P := by
  obtain ⟨Γ1, e, h⟩ := h
  exact w_seq ⟨(.nx, Γ1), e, h⟩
theorem w_set (h1 : f Γ = .val (.d fr d, Γ1)) (h : W r (Γ1.set m (.dat fr d)) P) : W (bSeq (bSet m f) r) Γ P := w_one ⟨_, by unfold bSet; rw [h1]; rfl, h⟩
theorem w_setC {c : Cl} (h1 : n Γ = .val (c, Γ1)) (h : W r (Γ1.set m (.own c)) P) : W (bSeq (bSetC m n) r) Γ P := w_one ⟨_, by unfold bSetC; rw [h1]; rfl, h⟩
theorem w_setX {s : Rs} (h1 : x Γ = .val (s, Γ1)) (h : W r (Γ1.set m (rsS s)) P) : W (bSeq (bSetX m x) r) Γ P := w_one ⟨_, by unfold bSetX; rw [h1]; rfl, h⟩
theorem w_setG {gg : DG} (h1 : f Γ = .val (.d fr d, Γ1)) (h2 : gg fr d Γ1 = some Γ2) (h : W r Γ2 P) : W (bSeq (bSetG gg f) r) Γ P := w_one ⟨_, by unfold bSetG; rw [h1, bind_val]; simp only; rw [h2]; rfl, h⟩
theorem w_expr {a : AV} (h1 : f Γ = .val (a, Γ1)) (h : W r Γ1 P) : W (bSeq (bExpr f) r) Γ P := w_one ⟨_, by unfold bExpr; rw [h1]; rfl, h⟩
theorem w_exprX {s : Rs} {e : PyData} (h1 : x Γ = .val (s, Γ1)) (h2 : rsF s = some e) (h : W r Γ1 P) : W (bSeq (bExprX x) r) Γ P := w_one ⟨_, by unfold bExprX; rw [h1, bind_val, h2]; rfl, h⟩
theorem w_ret (h1 : f Γ = .val (.d true d, Γ1)) (h : P (.rt (.d d)) Γ1) : W (bSeq (bRet f) r) Γ P := w_seq ⟨(.rt (.d d), Γ1), by unfold bRet; rw [h1]; rfl, h⟩
theorem w_ret0 (h : P (.rt (.d .none)) Γ) : W (bSeq bRet0 r) Γ P := w_seq ⟨(.rt (.d .none), Γ), rfl, h⟩
theorem w_retC {c : Cl} (h1 : n Γ = .val (c, Γ1)) (h : P (.rt (.c c)) Γ1) : W (bSeq (bRetC n) r) Γ P := w_seq ⟨(.rt (.c c), Γ1), by unfold bRetC; rw [h1]; rfl, h⟩
theorem w_retX {s : Rs} (h1 : x Γ = .val (s, Γ1)) (h : P (.rt s) Γ1) : W (bSeq (bRetX x) r) Γ P := w_seq ⟨(.rt s, Γ1), by unfold bRetX; rw [h1]; rfl, h⟩
theorem w_retO {c : Cl} (h1 : Γ[m]? = some (.own c)) (h : P (.rt (.c c)) (Γ.set m .un)) : W (bSeq (bRetO m) r) Γ P := w_seq ⟨(.rt (.c c), Γ.set m .un), by unfold bRetO; rw [h1], h⟩
theorem w_if {c2 : DS} (h1 : t Γ = .val (z, Γ1)) (hT : z = true → W (bSeq b r) Γ1 P) (hF : z = false → W (bSeq c2 r) Γ1 P) : W (bSeq (bIf t b c2) r) Γ P := by
  have e : bSeq (bIf t b c2) r Γ = if z then bSeq b r Γ1 else bSeq c2 r Γ1 := by
    unfold bSeq bIf
    rw [h1, bind_val]
    cases z <;> rfl
  unfold W
  rw [e]
  cases z with
  | true => exact hT rfl
  | false => exact hF rfl
theorem w_seqA (h : W (bSeq b (bSeq r r2)) Γ P) : W (bSeq (bSeq b r) r2) Γ P := by
  have e : bSeq (bSeq b r) r2 Γ = bSeq b (bSeq r r2) Γ := by
    unfold bSeq
    rw [R.bind_assoc]
    congr 1
    funext z
    obtain ⟨w, Γ1⟩ := z
    cases w <;> rfl
  unfold W
  rw [e]
  exact h
theorem w_seqN (h : W r Γ P) : W (bSeq bNil r) Γ P := h
theorem w_inc {i j : Int} {fr2 : Bool} (h0 : Γ[m]? = some (.dat fr (.int i))) (h1 : f Γ = .val (.d fr2 (.int j), Γ1)) (h : W r (Γ1.set m (.dat true (.int (i + j)))) P) : W (bSeq (bInc m f) r) Γ P := w_one ⟨_, by unfold bInc; rw [h0]; simp only [intS]; rw [ofO_some, bind_val, h1]; rfl, h⟩
theorem w_for {is : List Nat} {gg : DG} {it : DI} {y : List PyData × Bool} (Inv : Nat → List Sl → Prop) (h1 : it Γ = .val (y, Γ1)) (h0 : Inv 0 (wipeG Γ1 is))
    (hb : ∀ i d Γ, y.1[i]? = some d → Inv i Γ → ∃ Γ1, gg y.2 d Γ = some Γ1 ∧ W b Γ1 fun w Γ2 => match w with
      | .nx => Inv (i + 1) (wipeG Γ2 is)
      | .ct => Inv (i + 1) (wipeG Γ2 is)
      | .bk => W r (wipeG Γ2 is) P
      | .rt s => P (.rt s) Γ2) (hd : ∀ Γ, Inv y.1.length Γ → W r Γ P) : W (bSeq (bFor is gg it b) r) Γ P := by
  refine w_seq ?_
  unfold W bFor
  rw [h1, bind_val]
  exact ok_loopU (Post := fun z => match z.1 with
    | .nx => W r z.2 P
    | w => P w z.2) Inv y.1 h0 (fun i d Γ hd hi => by
      obtain ⟨Γ1, e1, o⟩ := hb i d Γ hd hi
      exact ⟨Γ1, e1, o.mono fun z hz => by
        obtain ⟨w, Γ2⟩ := z
        cases w <;> exact hz⟩) hd
theorem w_while {is : List Nat} {fl : List Sl → Nat} (Inv : Nat → List Sl → Prop) (k : Nat) (hk : k < fl Γ) (h0 : Inv k (wipeG Γ is))
    (hb : ∀ n Γ, Inv n Γ → ∃ z Γ1, t Γ = .val (z, Γ1) ∧ (z = true → W b Γ1 fun w Γ2 => match w with
      | .nx => ∃ m, m < n ∧ Inv m (wipeG Γ2 is)
      | .ct => ∃ m, m < n ∧ Inv m (wipeG Γ2 is)
      | .bk => W r (wipeG Γ2 is) P
      | .rt s => P (.rt s) Γ2) ∧ (z = false → W r Γ1 P)) : W (bSeq (bWhile is fl t b) r) Γ P := by
  refine w_seq ?_
  unfold W bWhile
  refine ok_loopW (Post := fun z => match z.1 with
    | .nx => W r z.2 P
    | w => P w z.2) Inv (fun n Γ hi => ?_) (fl Γ) k Γ hk h0
  obtain ⟨z, Γ1, e, hT, hF⟩ := hb n Γ hi
  refine ⟨(z, Γ1), e, ?_⟩
  cases z with
  | true =>
    show Ok _ _
    exact (hT rfl).mono fun y hy => by
      obtain ⟨w, Γ2⟩ := y
      cases w <;> exact hy
  | false => exact hF rfl
end
theorem ok_run {n np : Nat} {b : DS} {as : List Ar} {Q : Rs × List Sl → Prop} (hl : as.length = np) (h : W b (initS n as) fun w Γ => ∃ r Z, fwR w = some r ∧ cellsAt as Γ = some Z ∧ Q (r, Z)) : Ok (runB n np b as) Q := by
  unfold runB
  have : (as.length == np) = true := by rw [hl]; exact beq_self_eq_true _
  rw [this, req_true, bind_val]
  obtain ⟨z, e, r, Z, h1, h2, h3⟩ := h
  rw [e]
  show Ok ((R.ofO (fwR z.1)).bind _) Q
  rw [h1, ofO_some, bind_val, h2]
  exact ok_val h3
local macro_rules
  | `(tactic| bv_omega) => `(tactic| with_reducible first
  | exact e_C | exact a_nil | exact k_sub | exact k_and | exact k_or | exact k_eqI | exact k_neI | exact k_I
  | apply e_I | apply e_add | apply e_neg | apply e_cmp | apply t_tst | apply t_not | apply e_not
  | apply k_mul | apply k_div | apply k_mod | apply k_pow | apply k_shl | apply k_shr
  | apply a_cons | apply n_lst | apply e_tup | apply e_ofN | apply c_l | apply x_c | apply e_B | apply n_B | apply e_isi)
local macro_rules
  | `(tactic| symm_saturate) => `(tactic| repeat' first | bv_omega | exact e_var rfl | exact e_varO rfl | exact e_varI rfl | rfl | assumption)
end PD
section
open PySem L2 PD
local macro_rules
  | `(tactic| bv_omega) => `(tactic| with_reducible first
  | exact e_C | exact a_nil | exact k_sub | exact k_and | exact k_or | exact k_eqI | exact k_neI | exact k_I
  | apply e_I | apply e_add | apply e_neg | apply e_cmp | apply t_tst | apply t_not | apply e_not
  | apply k_mul | apply k_div | apply k_mod | apply k_pow | apply k_shl | apply k_shr
  | apply a_cons | apply n_lst | apply e_tup | apply e_ofN | apply c_l | apply x_c | apply e_B | apply n_B | apply e_isi)
local macro_rules
  | `(tactic| symm_saturate) => `(tactic| repeat' first | bv_omega | exact e_var rfl | exact e_varO rfl | exact e_varI rfl | rfl | assumption)
set_option linter.all false
set_option maxRecDepth 100000
set_option autoImplicit false
namespace PD
open PySem L2
section
variable {Γ Γ1 Γ2 : List Sl} {fe : DF} {r : DS} {m : Nat} {io fr : Bool} {f : Fd} {n : Int} {P : Fw → List Sl → Prop}
theorem e_fdT (h : cellF Γ m = some (io, f)) : dFdT m Γ = .val (.d true (.int f.2.1), Γ) := by unfold dFdT; rw [h]; rfl
theorem e_fdS (h : cellF Γ m = some (io, f)) : dFdS m Γ = .val (.d true (.int f.2.2), Γ) := by unfold dFdS; rw [h]; rfl
theorem e_fdN (h : cellF Γ m = some (io, f)) : dFdN m Γ = .val (.d true (.bool (!decide (f.1 = ([] : List Int)))), Γ) := by unfold dFdN; rw [h]; rfl
theorem e_fd0 (h : cellF Γ m = some (io, f)) (h2 : atI f.1 0 = some n) : dFd0 m Γ = .val (.d true (.int n), Γ) := by unfold dFd0; rw [h, ofO_some, bind_val, h2]; rfl
theorem w_fdT (h1 : fe Γ = .val (.d fr (.int n), Γ1)) (h2 : cellF Γ1 m = some (io, f)) (h : W r (Γ1.set m (mkS io (.feed (f.1, n, f.2.2)))) P) : W (bSeq (bFdT m fe) r) Γ P := w_one ⟨_, by unfold bFdT; rw [h1, bind_val]; show ((R.ofO (some n)).bind _) = _; rw [ofO_some, bind_val, h2]; rfl, h⟩
theorem w_fdS (h1 : fe Γ = .val (.d fr (.int n), Γ1)) (h2 : cellF Γ1 m = some (io, f)) (h : W r (Γ1.set m (mkS io (.feed (f.1, f.2.1, n)))) P) : W (bSeq (bFdS m fe) r) Γ P := w_one ⟨_, by unfold bFdS; rw [h1, bind_val]; show ((R.ofO (some n)).bind _) = _; rw [ofO_some, bind_val, h2]; rfl, h⟩
theorem w_fd0 (h1 : fe Γ = .val (.d fr (.int n), Γ1)) (h2 : cellF Γ1 m = some (io, f)) (h3 : f.1 ≠ []) (h : W r (Γ1.set m (mkS io (.feed (f.1.set 0 n, f.2)))) P) : W (bSeq (bFd0 m fe) r) Γ P := w_one ⟨_, by
  unfold bFd0; rw [h1, bind_val]; show ((R.ofO (some n)).bind _) = _; rw [ofO_some, bind_val, h2, ofO_some, bind_val]
  have : (!decide ((io, f).2.1 = ([] : List Int))) = true := by simpa using h3
  rw [this]; rfl, h⟩
theorem w_fdC (h2 : cellF Γ m = some (io, f)) (h : W r (Γ.set m (mkS io (.feed (f.1.drop 1, f.2)))) P) : W (bSeq (bFdC m) r) Γ P := w_one ⟨_, by unfold bFdC; rw [h2]; rfl, h⟩
end
theorem mod_64 {a M : Int} (h : 0 < M) (h2 : M < 2 ^ 64) : (a % M).natAbs < 2 ^ 64 := by
  have h3 := Int.emod_nonneg a (by omega : M ≠ 0)
  have h4 := Int.emod_lt_of_pos a h
  omega
theorem mulR {i j : Int} (h : j.natAbs < 2 ^ 64) : cMulX i j = true := by unfold cMulX; rw [decide_eq_true h]; simp
theorem mulL {i j : Int} (h : i.natAbs < 2 ^ 64) : cMulX i j = true := by unfold cMulX; rw [decide_eq_true h]; simp
theorem modP {i j : Int} (h : 0 < j) : cMod i j = true := decide_eq_true h
theorem log2_lt {n : Nat} (h : n < 2 ^ 64) : n.log2 < 9000 := by
  by_cases h0 : n = 0
  · subst h0; decide
  · have := (Nat.log2_lt h0 (k := 64)).mpr h
    omega
theorem divP {i j : Int} (h : 0 < j) (h2 : j < 2 ^ 64) : cDiv i j = true := by
  unfold cDiv
  rw [Bool.and_eq_true]
  exact ⟨decide_eq_true h, decide_eq_true (log2_lt (by omega))⟩
def feedTake : DS := (bSeq (bFdT 0 (dAdd (dFdT 0) (dC (.int 1)))) (bSeq (bIf (dTst (dFdN 0)) (bSeq (bSet 2 (dFrz (dFd0 0))) (bSeq (bIf (dTst (dCmp (kI fun i j => decide (j ≤ i)) (dVar 2) (dI kPow (dC (.int 10)) (dC (.int 18))))) (bSeq (bFd0 0 (dI kDiv (dVar 2) (dVar 1))) (bSeq (bRet (dI kMod (dVar 2) (dVar 1))) bNil)) bNil) (bSeq (bFdS 0 (dI kMod (dAdd (dAdd (dI kMul (dFdS 0) (dC (.int 30011))) (dI kMod (dVar 2) (dC (.int 999999937)))) (dC (.int 7))) (dC (.int 1000000007)))) (bSeq (bFdC 0) bNil)))) bNil) (bSeq (bSet 3 (dI kMod (dI kMul (dAdd (dAdd (dFdS 0) (dI kMul (dC (.int 40503)) (dFdT 0))) (dC (.int 9973))) (dC (.int 69069))) (dC (.int 2147483647)))) (bSeq (bSet 3 (dI kMod (dAdd (dAdd (dI kMul (dVar 3) (dVar 3)) (dI kMul (dC (.int 30269)) (dVar 3))) (dFdT 0)) (dC (.int 2147483629)))) (bSeq (bRet (dI kMod (dI kDiv (dVar 3) (dC (.int 64))) (dVar 1))) bNil)))))
theorem take_end (f : Fd) (n : Int) (hm : 0 < n) (s2 : Sl) (P : Fw → List Sl → Prop) (hP : ∀ r s3 s4, 0 ≤ r → r < n → P (.rt (.d (.int r))) [.io (.feed f), .dat true (.int n), s3, s4]) :
    W (bSeq (bSet 3 (dI kMod (dI kMul (dAdd (dAdd (dFdS 0) (dI kMul (dC (.int 40503)) (dFdT 0))) (dC (.int 9973))) (dC (.int 69069))) (dC (.int 2147483647)))) (bSeq (bSet 3 (dI kMod (dAdd (dAdd (dI kMul (dVar 3) (dVar 3)) (dI kMul (dC (.int 30269)) (dVar 3))) (dFdT 0)) (dC (.int 2147483629)))) (bSeq (bRet (dI kMod (dI kDiv (dVar 3) (dC (.int 64))) (dVar 1))) bNil))) [.io (.feed f), .dat true (.int n), s2, .un] P := by
  apply w_set
  · repeat' first | bv_omega | exact e_fdS rfl | exact e_fdT rfl | exact mulR (by decide) | exact mulL (by decide) | exact modP (by decide)
  apply w_set
  · repeat' first | bv_omega | exact e_fdT rfl | exact e_var rfl | exact mulL (by decide) | exact mulL (mod_64 (by decide) (by decide)) | exact modP (by decide)
  apply w_ret
  · repeat' first | bv_omega | exact e_var rfl | exact divP (by decide) (by decide) | exact modP hm
  exact hP _ _ _ (Int.emod_nonneg _ (by omega)) (Int.emod_lt_of_pos _ hm)
theorem feedTake_ok (f : Fd) (n : Int) (hm : 0 < n) (hn : n < 2 ^ 64) : Ok (runB 4 2 feedTake [.c (.feed f), .d (.int n)]) fun z => ∃ r f', z = (.d (.int r), [.io (.feed f'), .un]) ∧ 0 ≤ r ∧ r < n := by
  refine ok_run rfl ?_
  unfold feedTake
  apply w_fdT
  · repeat' first | bv_omega | exact e_fdT rfl
  · rfl
  apply w_if
  · repeat' first | bv_omega | exact e_fdN rfl
  · intro hz
    have hne : f.1 ≠ [] := by simpa using hz
    obtain ⟨x, xs, hx⟩ : ∃ x xs, f.1 = x :: xs := by
      cases h : f.1 with
      | nil => exact absurd h hne
      | cons a b => exact ⟨a, b, rfl⟩
    apply w_seqA
    apply w_set
    · apply e_frz
      apply e_fd0 rfl
      show atI f.1 0 = some x
      rw [hx]; exact atI_nat (j := 0) rfl
    apply w_seqA
    apply w_if
    · repeat' first | bv_omega | exact e_var rfl | exact rfl
    · intro _
      apply w_seqA
      apply w_fd0
      · repeat' first | bv_omega | exact e_var rfl | exact divP hm hn
      · rfl
      · exact hne
      apply w_seqA
      apply w_ret
      · repeat' first | bv_omega | exact e_var rfl | exact modP hm
      exact ⟨_, _, rfl, rfl, _, _, rfl, Int.emod_nonneg _ (by omega), Int.emod_lt_of_pos _ hm⟩
    · intro _
      apply w_seqN
      apply w_seqA
      apply w_fdS
      · repeat' first | bv_omega | exact e_var rfl | exact e_fdS rfl | exact mulR (by decide) | exact modP (by decide)
      · rfl
      apply w_seqA
      apply w_fdC
      · rfl
      apply w_seqN
      exact take_end _ n hm _ _ fun r s3 s4 h1 h2 => ⟨_, _, rfl, rfl, r, _, rfl, h1, h2⟩
  · intro _
    apply w_seqN
    exact take_end _ n hm _ _ fun r s3 s4 h1 h2 => ⟨_, _, rfl, rfl, r, _, rfl, h1, h2⟩
end PD
set_option linter.all false
set_option maxRecDepth 100000
set_option autoImplicit false
namespace PD
open PySem L2
abbrev dL (ns : List Int) : PyData := .list (ns.map PyData.int)
abbrev dT (ns : List Int) : PyData := .tuple (ns.map PyData.int)
abbrev dTT (rs : List (List Int)) : PyData := .tuple (rs.map fun r => dT r)
theorem flat_int (i : Int) : flat (.int i) = true := rfl
theorem gmap {α β : Type} {f : α → β} {xs : List α} {i : Nat} {d : β} (h : (xs.map f)[i]? = some d) : ∃ x, xs[i]? = some x ∧ d = f x := by
  rw [List.getElem?_map] at h
  cases hx : xs[i]? with
  | none => rw [hx] at h; cases h
  | some x => rw [hx] at h; cases h; exact ⟨x, rfl, rfl⟩
theorem mem_at {α : Type} {xs : List α} {i : Nat} {x : α} (h : xs[i]? = some x) : x ∈ xs := List.mem_of_getElem? h
theorem k_tup {Γ : List Sl} {a : AV} {ds : List PyData} {fr : Bool} (h : rdSeq Γ a = some (ds, fr)) : kTuple Γ [a] = .val (.d fr (.tuple ds)) := by unfold kTuple; simp only [h]; rfl
theorem ltS_of {α : Type} {xs : List α} (h : xs.length < 2 ^ 20) : ltS xs = true := by
  unfold ltS
  apply decide_eq_true
  have : (2 : Nat) ^ 20 ≤ sizeLine := by decide
  omega
theorem szB_of {α : Type} {xs : List α} (h : xs.length < 2 ^ 20) : szB xs = true := by
  unfold szB
  apply decide_eq_true
  have : (2 : Nat) ^ 20 ≤ sizeLine := by decide
  omega
def RowsOk (rows : List (List Int)) : Prop := ∀ (k : Nat) (r : List Int), rows[k]? = some r → (∀ e ∈ r, 0 ≤ e ∧ e < (k : Int)) ∧ r.Nodup ∧ r.length < 64
theorem take_step {α : Type} {xs : List α} {i : Nat} {x : α} (h : xs[i]? = some x) : xs.take (i + 1) = xs.take i ++ [x] := by
  rw [List.take_add_one, h]; rfl
end PD
set_option linter.all false
set_option maxRecDepth 100000
set_option autoImplicit false
namespace PD
open PySem L2
structure Msk (k : Nat) (m : Int) (S : Nat → Prop) : Prop where
  nn : 0 ≤ m
  lt : m.toNat < 2 ^ k
  bit : ∀ j, m.toNat.testBit j = true ↔ S j
def Rise (xs : List Int) (S : Nat → Prop) : Prop := xs.Pairwise (· < ·) ∧ ∀ y : Int, y ∈ xs ↔ ∃ j : Nat, S j ∧ y = j
theorem Rise.ext {xs ys : List Int} {S : Nat → Prop} (h : Rise xs S) (h' : Rise ys S) : xs = ys := rise_ext h.1 h'.1 fun k => (h.2 k).trans (h'.2 k).symm
theorem Rise.nil {xs : List Int} {S : Nat → Prop} (h : Rise xs S) : xs = [] ↔ ∀ j, ¬ S j := by
  constructor
  · rintro rfl j hj
    exact absurd ((h.2 j).mpr ⟨j, hj, rfl⟩) (by simp)
  · intro z
    cases hx : xs with
    | nil => rfl
    | cons y ys =>
      obtain ⟨j, h1, _⟩ := (h.2 y).mp (by rw [hx]; simp)
      exact absurd h1 (z j)
def NetOk (net : List (List Int)) : Prop := ∀ (k : Nat) (row : List Int), net[k]? = some row → (∀ e ∈ row, 0 ≤ e ∧ e < (k : Int)) ∧ row.Pairwise (· < ·)
inductive Anc (net : List (List Int)) : Nat → Nat → Prop
  | rf (i : Nat) : Anc net i i
  | st {i k j : Nat} {row : List Int} : net[i]? = some row → ((k : Nat) : Int) ∈ row → Anc net k j → Anc net i j
def RowOk (n : Nat) (row : List Bool) (S : Nat → Prop) : Prop := row.length = n ∧ ∀ (j : Nat) (b : Bool), row[j]? = some b → (b = true ↔ S j)
theorem RowOk.at {n : Nat} {row : List Bool} {S : Nat → Prop} (h : RowOk n row S) {j : Nat} (hj : j < n) : ∃ b, row[j]? = some b ∧ (b = true ↔ S j) := by
  have : j < row.length := by rw [h.1]; exact hj
  exact ⟨row[j], List.getElem?_eq_getElem this, h.2 j _ (List.getElem?_eq_getElem this)⟩
theorem any_int (x : Int) (xs : List Int) : ((xs.map PyData.int).any fun z => PyData.eqv z (.int x)) = decide (x ∈ xs) := by
  induction xs with
  | nil => simp
  | cons y ys ih =>
    rw [List.map_cons, List.any_cons, ih, eqt_int.eq]
    by_cases h : y = x
    · simp [h]
    · have h2 : ¬ x = y := fun e => h e.symm
      simp [h, h2]
def bBitsOf : DS := (bSeq (bSetX 1 (xC (nL (dLst dA0)))) (bSeq (bFor [2, 3, 4, 5] (gT2 (gN 2) (gN 3)) (iEnum (dVar 0)) (bSeq (bSet 4 (dI kShl (dC (.int 1)) (dVar 2))) (bSeq (bFor [5] (gN 5) (iSeq (dVar 3)) (bSeq (bSet 4 (dI kOr (dVar 4) (dIxB (dVar 1) (dVar 5)))) bNil)) (bSeq (bExpr (dLm 1 qAppend (dAc (dFrz (dVar 4)) dA0))) bNil)))) (bSeq (bRetO 1) bNil)))
end PD
set_option linter.all false
set_option maxRecDepth 100000
set_option autoImplicit false
namespace PD
open PySem L2
theorem n_comp {α : Type} {enc : α → PyData} (xs : List α) (p : α → Bool) (v : α → PyData) {vs : List Nat} {g : DG} {it : DI} {t : DT} {e : DF} {Γ Γ1 Γ0 : List Sl} {fr : Bool} (h1 : it Γ = .val ((xs.map enc, fr), Γ1)) (hs : xs.length < 2 ^ 20) (h0 : wipeG Γ1 vs = Γ0)
    (hb : ∀ x ∈ xs, ∃ Γ2, g fr (enc x) Γ0 = some Γ2 ∧ wipeG Γ2 vs = Γ0 ∧ t Γ2 = .val (p x, Γ2) ∧ (p x = true → e Γ2 = .val (.d true (v x), Γ2))) : nComp vs g it t e Γ = .val ((xs.filter p).map v, Γ0) := by
  unfold nComp
  rw [h1, bind_val]
  have : szB (xs.map enc) = true := szB_of (by rw [List.length_map]; exact hs)
  show (R.req (szB (xs.map enc))).bind _ = _
  rw [this, req_true, bind_val]
  refine ok_eq (ok_compU (fun i out Γ => Γ = Γ0 ∧ out = ((xs.take i).filter p).map v) (xs.map enc) ⟨h0, by simp⟩ (fun i d out Γ hd hI => ?_) fun out Γ hI => ?_)
  · obtain ⟨rfl, rfl⟩ := hI
    obtain ⟨x, hx, rfl⟩ := gmap hd
    obtain ⟨Γ2, q1, q2, q3, q4⟩ := hb x (mem_at hx)
    refine ⟨Γ2, q1, ok_of q3 ?_⟩
    show if p x = true then _ else _
    by_cases hp : p x = true
    · rw [if_pos hp]
      refine ok_of (q4 hp) ⟨v x, rfl, q2, ?_⟩
      rw [take_step hx, List.filter_append, List.map_append]
      simp [hp]
    · rw [if_neg hp]
      refine ⟨q2, ?_⟩
      rw [take_step hx, List.filter_append, List.map_append]
      simp [hp]
  · obtain ⟨rfl, rfl⟩ := hI
    show (_, _) = (_, _)
    rw [List.length_map, List.take_length]
def optI : Option Int → PyData
  | none => .none
  | some i => .int i
def BestAt (L : Nat → Int) (barred : List Int) (n : Nat) (best : Option Int) (most : Int) : Prop := match best with
  | none => most = 0 ∧ ∀ k : Nat, k < n → ((k : Nat) : Int) ∉ barred → L k ≤ 0
  | some m => ∃ j : Nat, m = j ∧ j < n ∧ ((j : Nat) : Int) ∉ barred ∧ most = L j ∧ 0 < L j ∧ (∀ k : Nat, k < n → ((k : Nat) : Int) ∉ barred → L k ≤ L j) ∧ ∀ k : Nat, k < j → ((k : Nat) : Int) ∉ barred → L k < L j
theorem BestAt.nn {L : Nat → Int} {barred : List Int} {n : Nat} {best : Option Int} {most : Int} (h : BestAt L barred n best most) : 0 ≤ most := by
  cases best with
  | none => have := h.1; omega
  | some m => obtain ⟨j, _, _, _, h1, h2, _⟩ := h; omega
theorem rng_at {j : Int} {i : Nat} {x : Int} (h : (rng 0 j)[i]? = some x) : x = (i : Nat) ∧ (i : Int) < j := by
  unfold rng at h
  obtain ⟨k, hk, rfl⟩ := gmap h
  rw [List.getElem?_range (by
    have := (List.getElem?_eq_some_iff.mp hk).1
    simpa using this)] at hk
  cases hk
  have := (List.getElem?_eq_some_iff.mp h).1
  simp at this
  omega
theorem rng_len (i j : Int) : (rng i j).length = (j - i).toNat := by unfold rng; simp
theorem cRng_of {i j : Int} (h1 : -(2 ^ 62) ≤ i) (h2 : i < 2 ^ 62) (h3 : -(2 ^ 62) ≤ j) (h4 : j < 2 ^ 62) : cRng i j = true := decide_eq_true ⟨h1, h2, h3, h4⟩
end PD
set_option linter.all false
set_option maxRecDepth 100000
set_option autoImplicit false
namespace PD
open PySem L2
theorem e_frzT {Γ Γ1 : List Sl} {f : DF} {fr : Bool} {d : PyData} (h1 : f Γ = .val (.d fr d, Γ1)) (h2 : flat d = true) : dFrz f Γ = .val (.d true d, Γ1) := by
  have := e_frzD h1
  rw [h2, Bool.or_true] at this
  exact this
theorem x_callE {Γ Γ1 Γ2 : List Sl} {k : DA} {as : List AV} {ds : List PyData} {m : List Ar → R (Rs × List Sl)} {dds : List PyData} {r : Rs} {Z : List Sl} {p q : Nat} {ic : Bool × Cl} {cl : Cl} (h1 : k Γ = .val (as, Γ1)) (h2 : pickC p as = some q) (h3 : cellAt Γ1 q = some ic) (h4 : rdDs Γ1 (some q) (as.eraseIdx p) = some ds) (h5 : ic.2.fl = true) (h6 : m (insC p ic.2 (ds ++ dds)) = .val (r, Z)) (h7 : ioAt p Z = some cl) (h8 : Γ1.set q (mkS ic.1 cl) = Γ2) :
    xCallC m p dds k Γ = .val (r, Γ2) := by rw [x_callC h1 h2 h3 h4 h5 h6 h7, h8]
local macro_rules
  | `(tactic| apply_mod_cast $h) => `(tactic| (apply e_xd; apply x_callE; (· symm_saturate); (· rfl); (· rfl); (· rfl); (· rfl); (· exact $h); (· rfl); (· rfl)))
def uTake : List Ar → R (Rs × List Sl) := runB 4 2 feedTake
theorem take_q (f : Fd) (n : Int) (hm : 0 < n) (hn : n < 2 ^ 64) : ∃ r f', uTake [.c (.feed f), .d (.int n)] = .val (.d (.int r), [.io (.feed f'), .un]) ∧ 0 ≤ r ∧ r < n := by
  obtain ⟨z, e, r, f', rfl, h1, h2⟩ := feedTake_ok f n hm hn
  exact ⟨r, f', e, h1, h2⟩
theorem rng_mem0 {j x : Int} : x ∈ rng 0 j ↔ 0 ≤ x ∧ x < j := by
  unfold rng
  simp only [List.mem_map, List.mem_range]
  constructor
  · rintro ⟨i, hi, rfl⟩; omega
  · rintro ⟨h1, h2⟩; exact ⟨x.toNat, by omega, by omega⟩
theorem k_ninS {Γ : List Sl} {fr : Bool} {j : Nat} (x : Int) (ns : List Int) (h : Γ[j]? = some (.own (.lst (ns.map PyData.int)))) : kNinB Γ (.d fr (.int x)) (.s j) = .val (!decide (x ∈ ns)) := by
  unfold kNinB kInB dicA kIn
  simp only [rdD, h]
  rw [eqt_int.sh (by decide) x, (eqt_list eqt_int).sh (by decide) ns, any_int]
  rfl
def bElders : DS := (bSeq (bIf (dTst (dCmp kEq (dVar 2) (dC (.int 0)))) (bSeq (bRetC (nL (dLst (dAc (dI kSub (dVar 1) (dC (.int 1))) dA0)))) bNil) bNil) (bSeq (bIf (dTst (dCmp kEq (dVar 2) (dC (.int 1)))) (bSeq (bRetC (nL (dLst (dAc (dC (.int 0)) dA0)))) bNil) bNil) (bSeq (bIf (dTst (dCmp kEq (dVar 2) (dC (.int 2)))) (bSeq (bRetC (nL (dLst dA0))) bNil) bNil) (bSeq (bIf (dTst (dCmp kEq (dVar 2) (dC (.int 3)))) (bSeq (bRetC (nL (dLst (dAc (dI kDiv (dVar 1) (dC (.int 2))) dA0)))) bNil) bNil) (bSeq (bIf (dTst (dCmp kEq (dVar 2) (dC (.int 4)))) (bSeq (bRetC (nL (nComp [5] (gN 5) (iRange1 (dVar 1)) (dTst (dCmp kEq (eX (xCallC uTake 0 [] (dAc (dVar 0) (dAc (dC (.int 2)) dA0)))) (dC (.int 1)))) (dFrz (dVar 5))))) bNil) bNil) (bSeq (bSetX 3 (xC (nL (dLst dA0)))) (bSeq (bFor [4, 5] (gN 4) (iRange1 (eX (xCallC uTake 0 [] (dAc (dVar 0) (dAc (dC (.int 7)) dA0))))) (bSeq (bSet 5 (eX (xCallC uTake 0 [] (dAc (dVar 0) (dAc (dVar 1) dA0))))) (bSeq (bIf (dTst (dCmp kNinB (dVar 5) (dVar 3))) (bSeq (bExpr (dLm 3 qAppend (dAc (dFrz (dVar 5)) dA0))) bNil) bNil) bNil))) (bSeq (bRetO 3) bNil))))))))
def uElders : List Ar → R (Rs × List Sl) := runB 6 3 bElders
def EldOk (make : Int) (r : List Int) : Prop := (∀ e ∈ r, 0 ≤ e ∧ e < make) ∧ r.Nodup ∧ r.length < 64
theorem elders_q (f : Fd) (make way : Int) (h0 : 0 < make) (h1 : make ≤ 50) : ∃ r f', uElders [.c (.feed f), .d (.int make), .d (.int way)] = .val (.c (.lst (r.map PyData.int)), [.io (.feed f'), .un, .un]) ∧ EldOk make r := by
  have key : Ok (uElders [.c (.feed f), .d (.int make), .d (.int way)]) fun z => ∃ r f', z = (.c (.lst (r.map PyData.int)), [.io (.feed f'), .un, .un]) ∧ EldOk make r := by
    refine ok_run rfl ?_
    unfold bElders
    have one : ∀ (x : Int), 0 ≤ x → x < make → EldOk make [x] := fun x h1 h2 => ⟨by simp; omega, by simp, by simp⟩
    apply w_if
    · symm_saturate
    · intro _
      apply w_seqA
      apply w_retC
      · symm_saturate
      exact ⟨_, _, rfl, rfl, [_], _, rfl, one _ (by omega) (by omega)⟩
    intro _
    apply w_seqN
    apply w_if
    · symm_saturate
    · intro _
      apply w_seqA
      apply w_retC
      · symm_saturate
      exact ⟨_, _, rfl, rfl, [_], _, rfl, one _ (by omega) (by omega)⟩
    intro _
    apply w_seqN
    apply w_if
    · symm_saturate
    · intro _
      apply w_seqA
      apply w_retC
      · symm_saturate
      exact ⟨_, _, rfl, rfl, [], _, rfl, by simp, by simp, by simp⟩
    intro _
    apply w_seqN
    apply w_if
    · symm_saturate
    · intro _
      apply w_seqA
      apply w_retC
      · apply c_l
        apply n_lst
        · apply a_cons
          · apply e_I
            · exact e_var rfl
            · exact e_C
            · exact k_div (divP (by decide) (by decide))
          · exact a_nil
        · rfl
        · rfl
      exact ⟨_, _, rfl, rfl, [_], _, rfl, one _ (by omega) (by omega)⟩
    intro _
    apply w_seqN
    apply w_if
    · symm_saturate
    · intro _
      apply w_seqA
      have hc := ok_compU (vs := [5]) (g := gN 5) (fr := true) (t := dTst (dCmp kEq (eX (xCallC uTake 0 [] (dAc (dVar 0) (dAc (dC (.int 2)) dA0)))) (dC (.int 1)))) (e := dFrz (dVar 5))
        (Post := fun z => ∃ (r : List Int) (f' : Fd), EldOk make r ∧ z = (r.map PyData.int, [.io (.feed f'), .dat true (.int make), .dat true (.int way), .un, .un, .un]))
        (fun i out Γ => ∃ (r : List Int) (f' : Fd), r.length ≤ i ∧ r.Pairwise (· < ·) ∧ (∀ x ∈ r, 0 ≤ x ∧ x < (i : Int)) ∧ out = r.map PyData.int ∧ Γ = [.io (.feed f'), .dat true (.int make), .dat true (.int way), .un, .un, .un])
        ((rng 0 make).map PyData.int) (Γ := [.io (.feed f), .dat true (.int make), .dat true (.int way), .un, .un, .un]) ⟨[], f, by simp, by simp, by simp, rfl, rfl⟩ ?_ ?_
      · obtain ⟨z, e, r, f', hr, rfl⟩ := hc
        apply w_retC
        · apply c_l
          show nComp [5] (gN 5) (iRange1 (dVar 1)) _ _ [.io (.feed f), .dat true (.int make), .dat true (.int way), .un, .un, .un] = _
          unfold nComp
          rw [i_range1 (fr := true) (e_var rfl) (cRng_of (by decide) (by decide) (by omega) (by omega)), bind_val]
          have hs : szB ((rng 0 make).map PyData.int) = true := szB_of (by rw [List.length_map, rng_len]; omega)
          show (R.req (szB ((rng 0 make).map PyData.int))).bind _ = _
          rw [hs, req_true]
          exact e
        exact ⟨_, _, rfl, rfl, r, f', rfl, hr⟩
      · rintro i d out Γ hd ⟨r, f', q1, q2, q3, rfl, rfl⟩
        obtain ⟨x, hx, rfl⟩ := gmap hd
        obtain ⟨rfl, hi⟩ := rng_at hx
        obtain ⟨t, f2, ht, t0, t1⟩ := take_q f' 2 (by decide) (by decide)
        refine ⟨_, rfl, ok_of (a := (decide (t = 1), [.io (.feed f2), .dat true (.int make), .dat true (.int way), .un, .un, .dat true (.int (i : Nat))])) ?_ ?_⟩
        · apply t_tst
          apply e_cmp
          · apply_mod_cast ht
          · exact e_C
          · exact k_eqI
        · show if decide (t = 1) = true then _ else _
          by_cases h1 : decide (t = 1) = true
          · rw [if_pos h1]
            refine ok_of (e_frz (e_var rfl)) ⟨_, rfl, r ++ [(i : Int)], f2, by simp; omega, ?_, ?_, by simp, rfl⟩
            · rw [List.pairwise_append]
              refine ⟨q2, by simp, fun a ha b hb => ?_⟩
              simp at hb
              subst hb
              exact (q3 a ha).2
            · intro y hy
              rcases List.mem_append.mp hy with h | h
              · have := q3 y h; omega
              · simp at h; omega
          · rw [if_neg h1]
            exact ⟨r, f2, by omega, q2, fun y hy => by have := q3 y hy; omega, rfl, rfl⟩
      · rintro out Γ ⟨r, f', q1, q2, q3, rfl, rfl⟩
        rw [List.length_map, rng_len] at q1 q3
        exact ⟨r, f', ⟨fun e he => by have := q3 e he; omega, q2.imp fun h => by omega, by omega⟩, rfl⟩
    intro _
    apply w_seqN
    apply w_setX
    · symm_saturate
    obtain ⟨n7, f1, h7, a7, b7⟩ := take_q f 7 (by decide) (by decide)
    refine w_for (y := ((rng 0 n7).map PyData.int, true)) (Γ1 := [.io (.feed f1), .dat true (.int make), .dat true (.int way), .own (.lst []), .un, .un])
      (fun i Γ => ∃ (r : List Int) (f' : Fd), r.length ≤ i ∧ r.Nodup ∧ (∀ x ∈ r, 0 ≤ x ∧ x < make) ∧ Γ = [.io (.feed f'), .dat true (.int make), .dat true (.int way), .own (.lst (r.map PyData.int)), .un, .un]) ?_ ⟨[], f1, by simp, by simp, by simp, rfl⟩ ?_ ?_
    · refine i_range1 (fr := true) ?_ (cRng_of (by decide) (by decide) (by omega) (by omega))
      apply_mod_cast h7
    · rintro i d Γ hd ⟨r, f', q1, q2, q3, rfl⟩
      have hi : i < 7 := by
        have := (List.getElem?_eq_some_iff.mp hd).1
        rw [List.length_map, rng_len] at this
        omega
      refine ⟨_, rfl, ?_⟩
      obtain ⟨t, f2, ht, t0, t1⟩ := take_q f' make (by omega) (by omega)
      apply w_set
      · apply_mod_cast ht
      apply w_if
      · apply t_tst
        apply e_cmp
        · exact e_var rfl
        · exact e_varO rfl
        · exact k_ninS t r rfl
      · intro hz
        have hz : t ∉ r := by simpa using hz
        apply w_seqA
        apply w_expr
        · apply e_app
          · rfl
          · exact e_var rfl
          · rfl
          · exact ltS_of (by rw [List.length_map]; omega)
        apply w_seqN
        refine w_nil ⟨r ++ [t], f2, by simp; omega, ?_, ?_, by rw [List.map_append]; rfl⟩
        · rw [List.nodup_append]
          exact ⟨q2, by simp, fun a ha b hb => by simp at hb; subst hb; exact fun e => hz (e ▸ ha)⟩
        · intro y hy
          rcases List.mem_append.mp hy with h | h
          · exact q3 y h
          · simp at h; omega
      · intro _
        apply w_seqN
        exact w_nil ⟨r, f2, by omega, q2, q3, rfl⟩
    · rintro Γ ⟨r, f', q1, q2, q3, rfl⟩
      rw [List.length_map, rng_len] at q1
      apply w_retO
      · rfl
      exact ⟨_, _, rfl, rfl, r, f', rfl, q3, q2, by omega⟩
  obtain ⟨z, e, r, f', rfl, h⟩ := key
  exact ⟨r, f', e, h⟩
end PD
section
open PySem L2 PD
local macro_rules
  | `(tactic| apply_mod_cast $h) => `(tactic| (apply e_xd; apply x_callE; (· symm_saturate); (· rfl); (· rfl); (· rfl); (· rfl); (· exact $h); (· rfl); (· rfl)))
set_option linter.all false
set_option maxRecDepth 100000
set_option autoImplicit false
namespace PD
open PySem L2
def bRows : DS := (bSeq (bSetX 1 (xC (nL (dLst (dAc (dOfN (dLst dA0)) dA0))))) (bSeq (bSet 2 (eX (xCallC uTake 0 [] (dAc (dVar 0) (dAc (dC (.int 8)) dA0))))) (bSeq (bFor [3, 4] (gN 3) (iRange2 (dC (.int 1)) (dAdd (dC (.int 1)) (eX (xCallC uTake 0 [] (dAc (dVar 0) (dAc (dC (.int 40)) dA0)))))) (bSeq (bSet 4 (dFrz (dVar 2))) (bSeq (bIf (dTst (dCmp (kI fun i j => decide (j < i)) (dVar 2) (dC (.int 5)))) (bSeq (bSet 4 (eX (xCallC uTake 0 [] (dAc (dVar 0) (dAc (dC (.int 6)) dA0))))) bNil) bNil) (bSeq (bExpr (dLm 1 qAppend (dAc (dFrz (eX (xCallC uElders 0 [] (dAc (dVar 0) (dAc (dVar 3) (dAc (dVar 4) dA0)))))) dA0))) bNil)))) (bSeq (bRetO 1) bNil))))
def uRows : List Ar → R (Rs × List Sl) := runB 5 1 bRows
theorem rows_snoc {rows : List (List Int)} {r : List Int} (h : RowsOk rows) (hr : EldOk (rows.length : Int) r) : RowsOk (rows ++ [r]) := by
  intro k row hk
  by_cases hlt : k < rows.length
  · rw [List.getElem?_append_left hlt] at hk
    exact h k row hk
  · have : k = rows.length := by have := (List.getElem?_eq_some_iff.mp hk).1; simp at this; omega
    subst this
    simp at hk
    subst hk
    exact hr
theorem rows_q (f : Fd) : ∃ rows f', uRows [.c (.feed f)] = .val (.c (.lst (rows.map fun r => dL r)), [.io (.feed f')]) ∧ RowsOk rows ∧ 1 ≤ rows.length ∧ rows.length ≤ 40 := by
  have key : Ok (uRows [.c (.feed f)]) fun z => ∃ rows f', z = (.c (.lst (rows.map fun r => dL r)), [.io (.feed f')]) ∧ RowsOk rows ∧ 1 ≤ rows.length ∧ rows.length ≤ 40 := by
    refine ok_run rfl ?_
    unfold bRows
    apply w_setX
    · symm_saturate
    obtain ⟨w8, f1, h8, a8, b8⟩ := take_q f 8 (by decide) (by decide)
    apply w_set
    · apply_mod_cast h8
    obtain ⟨m, f2, hm, am, bm⟩ := take_q f1 40 (by decide) (by decide)
    refine w_for (y := ((rng 1 (1 + m)).map PyData.int, true)) (Γ1 := [.io (.feed f2), .own (.lst [dL []]), .dat true (.int w8), .un, .un])
      (fun i Γ => ∃ (rows : List (List Int)) (f' : Fd), rows.length = i + 1 ∧ RowsOk rows ∧ Γ = [.io (.feed f'), .own (.lst (rows.map fun r => dL r)), .dat true (.int w8), .un, .un]) ?_ ⟨[[]], f2, rfl, ?_, rfl⟩ ?_ ?_
    · refine i_range2 (fr := true) (fr2 := true) e_C ?_ (cRng_of (by decide) (by decide) (by omega) (by omega))
      apply e_add
      · exact e_C
      · apply_mod_cast hm
    · intro k row hk
      cases k with
      | zero => simp at hk; subst hk; simp
      | succ k => simp at hk
    · rintro i d Γ hd ⟨rows, f', hl, hR, rfl⟩
      obtain ⟨x, hx, rfl⟩ := gmap hd
      have hx2 : x = 1 + (i : Nat) ∧ (i : Int) < m := by
        unfold rng at hx
        obtain ⟨k, hk, rfl⟩ := gmap hx
        have hlt := (List.getElem?_eq_some_iff.mp hk).1
        rw [List.getElem?_range (by simpa using hlt)] at hk
        cases hk
        simp at hlt
        exact ⟨rfl, by omega⟩
      obtain ⟨rfl, hi⟩ := hx2
      refine ⟨_, rfl, ?_⟩
      apply w_set
      · exact e_frz (e_var rfl)
      have fin : ∀ (now : Int) (f3 : Fd), W (bSeq (bExpr (dLm 1 qAppend (dAc (dFrz (eX (xCallC uElders 0 [] (dAc (dVar 0) (dAc (dVar 3) (dAc (dVar 4) dA0)))))) dA0))) bNil) [.io (.feed f3), .own (.lst (rows.map fun r => dL r)), .dat true (.int w8), .dat true (.int (1 + (i : Nat))), .dat true (.int now)]
          (fun w Γ2 => match w with
            | .nx => ∃ (rows : List (List Int)) (f' : Fd), rows.length = i + 1 + 1 ∧ RowsOk rows ∧ wipeG Γ2 [3, 4] = [.io (.feed f'), .own (.lst (rows.map fun r => dL r)), .dat true (.int w8), .un, .un]
            | .ct => ∃ (rows : List (List Int)) (f' : Fd), rows.length = i + 1 + 1 ∧ RowsOk rows ∧ wipeG Γ2 [3, 4] = [.io (.feed f'), .own (.lst (rows.map fun r => dL r)), .dat true (.int w8), .un, .un]
            | .bk => W (bSeq (bRetO 1) bNil) (wipeG Γ2 [3, 4]) (fun w Γ => ∃ r Z, fwR w = some r ∧ cellsAt [.c (.feed f)] Γ = some Z ∧ ∃ rows f', (r, Z) = (Rs.c (.lst (rows.map fun r => dL r)), [.io (.feed f')]) ∧ RowsOk rows ∧ 1 ≤ rows.length ∧ rows.length ≤ 40)
            | .rt s => ∃ r Z, fwR (.rt s) = some r ∧ cellsAt [.c (.feed f)] Γ2 = some Z ∧ ∃ rows f', (r, Z) = (Rs.c (.lst (rows.map fun r => dL r)), [.io (.feed f')]) ∧ RowsOk rows ∧ 1 ≤ rows.length ∧ rows.length ≤ 40) := by
        intro now f3
        obtain ⟨r, f4, he, hE⟩ := elders_q f3 (1 + (i : Nat)) now (by omega) (by omega)
        apply w_expr
        · apply e_app
          · rfl
          · apply e_xc
            apply x_callE
            · symm_saturate
            · rfl
            · rfl
            · rfl
            · rfl
            · exact he
            · rfl
            · rfl
          · rfl
          · exact ltS_of (by rw [List.length_map]; omega)
        refine w_nil ⟨rows ++ [r], f4, by simp; omega, rows_snoc hR ?_, by rw [List.map_append]; rfl⟩
        have : ((rows.length : Nat) : Int) = 1 + (i : Nat) := by omega
        rw [this]
        exact hE
      apply w_if
      · symm_saturate
      · intro _
        obtain ⟨t, f3, ht, t0, t1⟩ := take_q f' 6 (by decide) (by decide)
        apply w_seqA
        apply w_set
        · apply_mod_cast ht
        apply w_seqN
        exact fin t f3
      · intro _
        apply w_seqN
        exact fin w8 f'
    · rintro Γ ⟨rows, f', hl, hR, rfl⟩
      rw [List.length_map, rng_len] at hl
      apply w_retO
      · rfl
      exact ⟨_, _, rfl, rfl, rows, f', rfl, hR, by omega, by omega⟩
  obtain ⟨z, e, rows, f', rfl, h⟩ := key
  exact ⟨rows, f', e, h⟩
end PD
set_option linter.all false
set_option maxRecDepth 100000
set_option autoImplicit false
namespace PD
open PySem L2
theorem w_put {Γ Γ1 Γ2 : List Sl} {fe fi : DF} {r : DS} {m : Nat} {v kk : PyData} {fr : Bool} {c0 c : Bool × Cl} {c' : Cl} {P : Fw → List Sl → Prop} (h1 : dFrz fe Γ = .val (.d true v, Γ1)) (h2 : cellC Γ1 m = some c0) (h3 : fi Γ1 = .val (.d fr kk, Γ2)) (h4 : cellC Γ2 m = some c) (h5 : putC c.2 kk v = some c') (h : W r (Γ2.set m (mkS c.1 c')) P) : W (bSeq (bPut m fe fi) r) Γ P := w_one ⟨_, by
  unfold bPut
  rw [h1, bind_val, h2, ofO_some, bind_val, h3, bind_val, h4, ofO_some, bind_val]
  simp only [h5]
  rfl, h⟩
theorem ixN_nat {n j : Nat} (h : j < n) : ixN n (j : Int) = some j := by
  unfold ixN
  rw [if_pos (by omega), if_pos (by omega)]
  simp
theorem at_nat {α : Type} {xs : List α} {f : α → PyData} {j : Nat} {x : α} (h : xs[j]? = some x) : atI (xs.map f) (j : Int) = some (f x) := atI_nat (by rw [List.getElem?_map, h]; rfl)
end PD
set_option linter.all false
set_option maxRecDepth 100000
set_option autoImplicit false
namespace PD
open PySem L2
theorem filt_sum (p : Int → Bool) : ∀ ms : List Int, (ms.filter p).length + (ms.filter fun x => !p x).length = ms.length
  | [] => rfl
  | x :: ms => by
    have := filt_sum p ms
    cases h : p x <;> simp [h] <;> omega
end PD
set_option linter.all false
set_option maxRecDepth 100000
set_option autoImplicit false
namespace PD
open PySem L2
end PD
set_option linter.all false
set_option autoImplicit false
namespace PD
open PySem L2
def uBitsOf : List Ar → R (Rs × List Sl) := runB 6 1 bBitsOf
end PD
set_option linter.all false
set_option maxRecDepth 100000
set_option autoImplicit false
namespace PD
open PySem L2
section
variable {Γ Γ1 Γ2 Γ3 : List Sl} {f g h : DF} {k : DA} {n : DN} {c : DC} {x : DX} {t t2 : DT} {fr fr2 z z2 : Bool} {d : PyData} {i j : Int} {ds es : List PyData} {a b : AV} {as : List AV} {P : Fw → List Sl → Prop} {r : DS} {m : Nat}
theorem e_x {s : Rs} (h1 : x Γ = .val (s, Γ1)) (h2 : rsF s = some d) : eX x Γ = .val (.d true d, Γ1) := by
  cases s with
  | d y => cases h2; exact e_xd h1
  | c y =>
    have h2 : frzC y = some d := h2
    unfold eX; rw [h1, bind_val]
    show ((R.ofO (frzC y)).bind fun e => R.val (AV.d true e, Γ1)) = _
    rw [h2]; rfl
theorem w_ifN {b c2 : DS} (h1 : t Γ = .val (z, Γ1)) (hz : z = false) (h : W (bSeq c2 r) Γ1 P) : W (bSeq (bIf t b c2) r) Γ P := w_if h1 (fun e => by rw [hz] at e; cases e) fun _ => h
theorem w_ifY {b c2 : DS} (h1 : t Γ = .val (z, Γ1)) (hz : z = true) (h : W (bSeq b r) Γ1 P) : W (bSeq (bIf t b c2) r) Γ P := w_if h1 (fun _ => h) (fun e => by rw [hz] at e; cases e)
theorem w_ifB {b c2 : DS} (h1 : t Γ = .val (z, Γ1)) (hT : z = true → W (bSeq b r) Γ1 P) (hF : z = false → W (bSeq c2 r) Γ1 P) : W (bSeq (bIf t b c2) r) Γ P := w_if h1 hT hF
theorem w_ifJ {b c2 : DS} {S : Type} (Rel : S → Prop) (sh : S → List Sl) (h1 : t Γ = .val (z, Γ1)) (hT : z = true → W b Γ1 fun w Γ2 => match w with
      | .nx => ∃ s, Γ2 = sh s ∧ Rel s
      | w => P w Γ2) (hF : z = false → W c2 Γ1 fun w Γ2 => match w with
      | .nx => ∃ s, Γ2 = sh s ∧ Rel s
      | w => P w Γ2) (h : ∀ s, Rel s → W r (sh s) P) : W (bSeq (bIf t b c2) r) Γ P := by
  refine w_if h1 (fun e => w_seq ((hT e).mono fun z hz => ?_)) (fun e => w_seq ((hF e).mono fun z hz => ?_))
  · obtain ⟨w, Γ2⟩ := z
    cases w with
    | nx => obtain ⟨s, h2, h3⟩ := hz; have h2 : Γ2 = sh s := h2; subst h2; exact h s h3
    | bk => exact hz
    | ct => exact hz
    | rt q => exact hz
  · obtain ⟨w, Γ2⟩ := z
    cases w with
    | nx => obtain ⟨s, h2, h3⟩ := hz; have h2 : Γ2 = sh s := h2; subst h2; exact h s h3
    | bk => exact hz
    | ct => exact hz
    | rt q => exact hz
theorem w_forL {α : Type} {enc : α → PyData} {is : List Nat} {gg : DG} {it : DI} {b : DS} (xs : List α) {S : Type} (Rel : Nat → S → Prop) (sh : S → List Sl) (s0 : S) (h1 : it Γ = .val ((xs.map enc, fr), Γ1)) (h0 : wipeG Γ1 is = sh s0) (hr : Rel 0 s0)
    (hb : ∀ (i : Nat) (x : α) (s : S), xs[i]? = some x → Rel i s → ∃ Γ1, gg fr (enc x) (sh s) = some Γ1 ∧ W b Γ1 fun w Γ2 => match w with
      | .nx => ∃ s', wipeG Γ2 is = sh s' ∧ Rel (i + 1) s'
      | .ct => ∃ s', wipeG Γ2 is = sh s' ∧ Rel (i + 1) s'
      | .bk => W r (wipeG Γ2 is) P
      | .rt q => P (.rt q) Γ2) (hd : ∀ s, Rel xs.length s → W r (sh s) P) : W (bSeq (bFor is gg it b) r) Γ P := by
  refine w_for (fun i Γ => ∃ s, Γ = sh s ∧ Rel i s) h1 ⟨s0, h0, hr⟩ ?_ ?_
  · rintro i d Γ hd ⟨s, rfl, hs⟩
    obtain ⟨x, hx, rfl⟩ := gmap hd
    exact hb i x s hx hs
  · rintro Γ ⟨s, rfl, hs⟩
    rw [List.length_map] at hs
    exact hd s hs
theorem w_forR {is : List Nat} {gg : DG} {it : DI} {b : DS} {N : Int} {S : Type} (Rel : Nat → S → Prop) (sh : S → List Sl) (s0 : S) (h1 : it Γ = .val (((rng 0 N).map PyData.int, fr), Γ1)) (h0 : wipeG Γ1 is = sh s0) (hr : Rel 0 s0)
    (hb : ∀ (i : Nat) (s : S), (i : Int) < N → Rel i s → ∃ Γ1, gg fr (.int (i : Nat)) (sh s) = some Γ1 ∧ W b Γ1 fun w Γ2 => match w with
      | .nx => ∃ s', wipeG Γ2 is = sh s' ∧ Rel (i + 1) s'
      | .ct => ∃ s', wipeG Γ2 is = sh s' ∧ Rel (i + 1) s'
      | .bk => W r (wipeG Γ2 is) P
      | .rt q => P (.rt q) Γ2) (hd : ∀ s, Rel N.toNat s → W r (sh s) P) : W (bSeq (bFor is gg it b) r) Γ P := by
  refine w_forL (rng 0 N) Rel sh s0 h1 h0 hr ?_ ?_
  · intro i x s hx hs
    obtain ⟨rfl, hi⟩ := rng_at hx
    exact hb i s hi hs
  · intro s hs
    rw [rng_len] at hs
    exact hd s (by simpa using hs)
theorem w_whileS {is : List Nat} {fl : List Sl → Nat} {b : DS} {S : Type} (Rel : S → Prop) (ms : S → Nat) (sh : S → List Sl) (s0 : S) (h0 : wipeG Γ is = sh s0) (hr : Rel s0) (hk : ms s0 < fl Γ)
    (hb : ∀ s, Rel s → ∃ z Γ1, t (sh s) = .val (z, Γ1) ∧ (z = true → W b Γ1 fun w Γ2 => match w with
      | .nx => ∃ s', wipeG Γ2 is = sh s' ∧ Rel s' ∧ ms s' < ms s
      | .ct => ∃ s', wipeG Γ2 is = sh s' ∧ Rel s' ∧ ms s' < ms s
      | .bk => W r (wipeG Γ2 is) P
      | .rt q => P (.rt q) Γ2) ∧ (z = false → W r Γ1 P)) : W (bSeq (bWhile is fl t b) r) Γ P := by
  refine w_while (fun n Γ => ∃ s, Γ = sh s ∧ Rel s ∧ ms s = n) (ms s0) hk ⟨s0, h0, hr, rfl⟩ ?_
  rintro n Γ ⟨s, rfl, hs, rfl⟩
  obtain ⟨z, Γ1, e, hT, hF⟩ := hb s hs
  refine ⟨z, Γ1, e, fun hz => ?_, hF⟩
  refine (hT hz).mono fun y hy => ?_
  obtain ⟨w, Γ2⟩ := y
  cases w with
  | nx => obtain ⟨s', h1, h2, h3⟩ := hy; exact ⟨_, h3, s', h1, h2, rfl⟩
  | ct => obtain ⟨s', h1, h2, h3⟩ := hy; exact ⟨_, h3, s', h1, h2, rfl⟩
  | bk => exact hy
  | rt q => exact hy
theorem k_lenI {α : Type} {enc : α → PyData} {xs : List α} (h : rdD Γ a = some (.list (xs.map enc))) : kLen Γ [a] = .val (.d true (.int (xs.length : Nat))) := by rw [k_lenL h, List.length_map]
theorem k_lenJ {α : Type} {enc : α → PyData} {xs : List α} (h : rdD Γ a = some (.tuple (xs.map enc))) : kLen Γ [a] = .val (.d true (.int (xs.length : Nat))) := by rw [k_lenT h, List.length_map]
theorem k_mx2 : kMax2 Γ [.d fr (.int i), .d fr2 (.int j)] = .val (.d true (.int (max2 i j))) := rfl
theorem k_mn2 : kMin2 Γ [.d fr (.int i), .d fr2 (.int j)] = .val (.d true (.int (min2 i j))) := rfl
end
end PD
set_option linter.all false
set_option maxRecDepth 100000
set_option autoImplicit false
namespace PD
open PySem L2
theorem filt_yes {α : Type} (xs : List α) : xs.filter (fun _ => true) = xs := List.filter_eq_self.mpr fun _ _ => rfl
theorem n_map {α : Type} {enc : α → PyData} (xs : List α) (v : α → PyData) {vs : List Nat} {g : DG} {it : DI} {e : DF} {Γ Γ1 Γ0 : List Sl} {fr : Bool} (h1 : it Γ = .val ((xs.map enc, fr), Γ1)) (hs : xs.length < 2 ^ 20) (h0 : wipeG Γ1 vs = Γ0)
    (hb : ∀ x ∈ xs, ∃ Γ2, g fr (enc x) Γ0 = some Γ2 ∧ wipeG Γ2 vs = Γ0 ∧ e Γ2 = .val (.d true (v x), Γ2)) : nComp vs g it tYes e Γ = .val (xs.map v, Γ0) := by
  have := n_comp xs (fun _ => true) v h1 hs h0 (t := tYes) (e := e) fun x hx => by
    obtain ⟨Γ2, q1, q2, q3⟩ := hb x hx
    exact ⟨Γ2, q1, q2, rfl, fun _ => q3⟩
  rw [filt_yes] at this
  exact this
theorem e_ap {Γ Γ1 : List Sl} {f : DF} {d : PyData} {ds es : List PyData} {m : Nat} {io : Bool} (h0 : cellL Γ m = some (io, es)) (h1 : dFrz f Γ = .val (.d true d, Γ1)) (h2 : cellL Γ1 m = some (io, ds)) (h3 : ltS ds = true) : dLm m qAppend (dAc (dFrz f) dA0) Γ = .val (.d true .none, Γ1.set m (mkS io (.lst (ds ++ [d])))) := by
  unfold dLm
  rw [h0, ofO_some, bind_val, a_cons h1 a_nil, bind_val, h2, ofO_some, bind_val]
  show ((qAppend ds [.d true d]).bind _) = _
  unfold qAppend
  simp only [h3]
  rfl
theorem szB_map {α β : Type} {f : α → β} {xs : List α} (h : xs.length < 2 ^ 20) : szB (xs.map f) = true := szB_of (by rw [List.length_map]; exact h)
section
variable {Γ : List Sl} {a b : AV} {α : Type} [DecidableEq α] {enc : α → PyData} {k : Nat} {x y : α}
end
abbrev dKV (kvs : List (Int × PyData)) : List (PyData × PyData) := kvs.map fun z => (PyData.int z.1, z.2)
def lookI (kvs : List (Int × PyData)) (k : Int) : Option PyData := (kvs.find? fun z => decide (z.1 = k)).map (·.2)
def putI (kvs : List (Int × PyData)) (k : Int) (v : PyData) : List (Int × PyData) := if kvs.any (fun z => decide (z.1 = k)) then kvs.map (fun z => if z.1 = k then (z.1, v) else z) else kvs ++ [(k, v)]
theorem getD_kv (kvs : List (Int × PyData)) (k : Int) : getD (dKV kvs) (.int k) = lookI kvs k := by
  unfold getD lookI
  rw [List.find?_map, Option.map_map]
  rfl
theorem lookI_nil (k : Int) : lookI [] k = none := rfl
theorem lookI_none {kvs : List (Int × PyData)} {k : Int} : lookI kvs k = none ↔ ∀ v, (k, v) ∉ kvs := by
  unfold lookI
  rw [Option.map_eq_none_iff, List.find?_eq_none]
  constructor
  · intro h v hv
    exact h _ hv (by simp)
  · intro h z hz e
    have e : z.1 = k := by simpa using e
    exact h z.2 (by rw [← e]; exact hz)
theorem lookI_cons (z : Int × PyData) (kvs : List (Int × PyData)) (k : Int) : lookI (z :: kvs) k = if z.1 = k then some z.2 else lookI kvs k := by
  unfold lookI
  rw [List.find?_cons]
  by_cases h : z.1 = k <;> simp [h]
theorem lookI_snoc (kvs : List (Int × PyData)) (a : Int) (v : PyData) (k : Int) : lookI (kvs ++ [(a, v)]) k = if (lookI kvs k).isSome then lookI kvs k else if a = k then some v else none := by
  induction kvs with
  | nil => simp [lookI_cons, lookI_nil]
  | cons z r ih =>
    rw [List.cons_append, lookI_cons, lookI_cons, ih]
    by_cases h : z.1 = k <;> simp [h]
theorem any_lookI (kvs : List (Int × PyData)) (k : Int) : kvs.any (fun z => decide (z.1 = k)) = (lookI kvs k).isSome := by
  induction kvs with
  | nil => rfl
  | cons z r ih => rw [List.any_cons, lookI_cons, ih]; by_cases h : z.1 = k <;> simp [h]
theorem lookI_put (kvs : List (Int × PyData)) (a : Int) (v : PyData) (k : Int) : lookI (putI kvs a v) k = if k = a then some v else lookI kvs k := by
  unfold putI
  rw [any_lookI]
  split
  · rename_i hs
    induction kvs with
    | nil => simp [lookI_nil] at hs
    | cons z r ih =>
      rw [List.map_cons, lookI_cons, lookI_cons]
      rw [lookI_cons] at hs
      by_cases h : z.1 = a
      · subst h
        simp only [if_true]
        by_cases h2 : z.1 = k
        · subst h2; simp
        · rw [if_neg h2, if_neg h2, if_neg (Ne.symm h2)]
          by_cases h3 : (lookI r z.1).isSome
          · rw [ih h3, if_neg (Ne.symm h2)]
          · have hn : lookI r z.1 = none := by simpa using h3
            have : r.map (fun y => if y.1 = z.1 then (y.1, v) else y) = r := by
              have e2 : r.map (fun y => if y.1 = z.1 then (y.1, v) else y) = r.map id := List.map_congr_left fun y hy => by
                rw [if_neg]
                · rfl
                · intro q
                  exact lookI_none.mp hn y.2 (by rw [← q]; exact hy)
              rw [e2, List.map_id]
            rw [this]
      · rw [if_neg h] at hs
        simp only [if_neg h]
        rw [ih hs]
        by_cases h2 : z.1 = k
        · subst h2; simp [h]
        · simp [h2]
  · rename_i hs
    rw [lookI_snoc]
    by_cases h : k = a
    · subst h; simp at hs; simp [hs]
    · rw [if_neg h, if_neg (Ne.symm h)]
      split
      · rfl
      · rename_i h2; simp at h2; rw [h2]
theorem putI_new {kvs : List (Int × PyData)} {a : Int} (v : PyData) (h : lookI kvs a = none) : putI kvs a v = kvs ++ [(a, v)] := by
  unfold putI
  rw [any_lookI, h]
  simp
section
variable {Γ : List Sl} {fr fr2 io : Bool} {k : Int} {kvs : List (Int × PyData)} {m : Nat} {v : PyData}
theorem k_ninKS (h : dicA Γ (.s m) = some (true, .k, dKV kvs)) : kNinB Γ (.d fr (.int k)) (.s m) = .val (!(lookI kvs k).isSome) := by
  unfold kNinB kInB
  simp only [h, rdD, getD_kv]
  rfl
theorem k_inKS (h : dicA Γ (.s m) = some (true, .k, dKV kvs)) : kInB Γ (.d fr (.int k)) (.s m) = .val (lookI kvs k).isSome := by
  unfold kInB
  simp only [h, rdD, getD_kv]
  rfl
theorem putC_lst {ds : List PyData} {j : Nat} (h : j < ds.length) : putC (.lst ds) (.int (j : Nat)) v = some (.lst (ds.set j v)) := by
  unfold putC
  simp only [ixN_nat h]
  rfl
end
theorem e_pop {Γ : List Sl} {m : Nat} {io : Bool} {ds : List PyData} {y : PyData} (h : cellL Γ m = some (io, ds ++ [y])) : dLm m qPop dA0 Γ = .val (.d true y, Γ.set m (mkS io (.lst ds))) := by
  unfold dLm
  rw [h, ofO_some, bind_val, a_nil, bind_val, h, ofO_some, bind_val]
  unfold qPop
  simp only [List.getLast?_concat, List.dropLast_concat]
  rfl
theorem shS {a : Str} (h : PyData.strOk a = true) : SeqAt.shaped (.str a) = true := by
  unfold SeqAt.shaped
  rw [PyData.canLay0, h]
  rfl
theorem k_neS {Γ : List Sl} {f1 f2 : Bool} {a b : Str} (h1 : PyData.strOk a = true := by decide +kernel) (h2 : PyData.strOk b = true := by decide +kernel) : kNe Γ (.d f1 (.str a)) (.d f2 (.str b)) = .val (!decide (a = b)) := k_ne rfl rfl (shS h1) (shS h2) (by show (a == b) = _; rfl)
theorem k_eqS {Γ : List Sl} {f1 f2 : Bool} {a b : Str} (h1 : PyData.strOk a = true := by decide +kernel) (h2 : PyData.strOk b = true := by decide +kernel) : kEq Γ (.d f1 (.str a)) (.d f2 (.str b)) = .val (decide (a = b)) := k_eq rfl rfl (shS h1) (shS h2) (by show (a == b) = _; rfl)
theorem x_callM {Γ Γ1 : List Sl} {k : DA} {as : List AV} {ars : List Ar} {ms : List Bool} {m : List Ar → R (Rs × List Sl)} {dds : List PyData} {r : Rs} {Z : List Sl} (h1 : k Γ = .val (as, Γ1)) (h2 : rdAs Γ1 none ms as = some ars) (h3 : m (ars ++ dds.map Ar.d) = .val (r, Z)) : xCallM m ms dds k Γ = .val (r, Γ1) := by
  unfold xCallM; rw [h1, bind_val, h2, ofO_some, bind_val, h3]; rfl
end PD
set_option linter.all false
set_option maxRecDepth 100000
set_option autoImplicit false
namespace PD
open PySem L2
end PD
set_option linter.all false
set_option maxRecDepth 100000
set_option autoImplicit false
namespace PD
open PySem L2
end PD
set_option linter.all false
set_option maxRecDepth 100000
set_option autoImplicit false
namespace PD
open PySem L2
end PD
set_option linter.all false
set_option maxRecDepth 100000
set_option autoImplicit false
namespace PD
open PySem L2
end PD
set_option linter.all false
set_option maxRecDepth 100000
set_option autoImplicit false
namespace PD
open PySem L2
end PD
set_option linter.all false
set_option maxRecDepth 100000
set_option autoImplicit false
namespace PD
open PySem L2
end PD
set_option linter.all false
set_option maxRecDepth 100000
set_option autoImplicit false
namespace PD
open PySem L2
end PD
set_option linter.all false
set_option maxRecDepth 100000
set_option autoImplicit false
namespace PD
open PySem L2
end PD
set_option linter.all false
set_option maxRecDepth 100000
set_option autoImplicit false
namespace PD
open PySem L2
end PD
set_option linter.all false
set_option maxRecDepth 100000
set_option autoImplicit false
namespace PD
open PySem L2
end PD
set_option linter.all false
set_option maxRecDepth 100000
set_option autoImplicit false
namespace PD
open PySem L2
def b_qpen : DS := (bSeq (bSet 2 (dAdd (dI kMul (dC (.int 40013)) (dVar 1)) (dC (.int 17)))) (bSeq (bIf (dTst (dCmp (kI fun i j => decide (j < i)) (dB kLen (dAc (dVar 0) dA0)) (dC (.int 0)))) (bSeq (bSet 2 (dAdd (dIxB (dVar 0) (dI kMod (dVar 1) (dB kLen (dAc (dVar 0) dA0)))) (dI kMul (dC (.int 104729)) (dI kDiv (dVar 1) (dB kLen (dAc (dVar 0) dA0)))))) bNil) bNil) (bSeq (bIf (dTst (dCmp (kI fun i j => decide (j ≤ i)) (dVar 2) (dI kPow (dC (.int 10)) (dC (.int 18))))) (bSeq (bRetC (nL (dLst (dAc (dFrz (dVar 2)) (dAc (dC (.int 0)) (dAc (dI kMod (dVar 2) (dC (.int 2147483587))) dA0)))))) bNil) bNil) (bSeq (bRetC (nL (dLst (dAc (dC (.int 0)) (dAc (dC (.int 0)) (dAc (dI kMod (dVar 2) (dC (.int 2147483587))) dA0)))))) bNil))))
def u_qpen : List Ar → R (Rs × List Sl) := runB 3 2 b_qpen
def b_qtake_k34 : DS := (bSeq (bIf (dTst (dCmp (kI fun i j => decide (j < i)) (dIxB (dVar 0) (dC (.int 0))) (dC (.int 0)))) (bSeq (bSet 2 (dI kMod (dIxB (dVar 0) (dC (.int 0))) (dVar 1))) (bSeq (bPut 0 (dI kDiv (dIxB (dVar 0) (dC (.int 0))) (dVar 1)) (dC (.int 0))) (bSeq (bRet (dVar 2)) bNil))) bNil) (bSeq (bPut 0 (dAdd (dIxB (dVar 0) (dC (.int 1))) (dC (.int 1))) (dC (.int 1))) (bSeq (bSet 3 (dI kMod (dI kMul (dAdd (dIxB (dVar 0) (dC (.int 2))) (dI kMul (dC (.int 7919)) (dIxB (dVar 0) (dC (.int 1))))) (dC (.int 48271))) (dC (.int 2147483629)))) (bSeq (bSet 3 (dI kMod (dAdd (dI kMul (dVar 3) (dVar 3)) (dI kMul (dC (.int 69621)) (dIxB (dVar 0) (dC (.int 1))))) (dC (.int 2147483587)))) (bSeq (bRet (dI kMod (dI kDiv (dVar 3) (dC (.int 64))) (dVar 1))) bNil)))))
def u_qtake_k34 : List Ar → R (Rs × List Sl) := runB 4 2 b_qtake_k34
end PD
set_option linter.all false
set_option maxRecDepth 100000
set_option autoImplicit false
namespace PD
open PySem L2
def b_qleft : DS := (bSeq (bSet 1 (eX (xCallC u_qtake_k34 0 [] (dAc (dVar 0) (dAc (dC (.int 37)) dA0))))) (bSeq (bRetC (nL (dLst (dAc (dC (.str "left")) (dAc (dB kTuple (dAc (dOfN (nComp [2] (gN 2) (iRange1 (dAdd (dC (.int 1)) (eX (xCallC u_qtake_k34 0 [] (dAc (dVar 0) (dAc (dC (.int 4)) dA0)))))) tYes (dFrz (dAdd (dVar 1) (dVar 2))))) dA0)) dA0))))) bNil))
def u_qleft : List Ar → R (Rs × List Sl) := runB 3 1 b_qleft
end PD
set_option linter.all false
set_option maxRecDepth 100000
set_option autoImplicit false
namespace PD
open PySem L2
theorem as_call {m : List Ar → R (Rs × List Sl)} {as : List Ar} {z : Rs × List Sl} (h : m as = .val z) : m as = .val z := h
local macro_rules
  | `(tactic| array_get_dec) => `(tactic| with_reducible first
  | exact e_C | exact a_nil | exact k_sub | exact k_and | exact k_or | exact k_eqI | exact k_neI | exact k_I | exact k_mx2 | exact k_mn2
  | apply e_I | apply e_add | apply e_neg | apply e_cmp | apply t_tst | apply t_not | apply e_not | apply t_or | apply t_and | apply e_and | apply e_or
  | apply k_mul | apply k_div | apply k_mod | apply k_pow | apply k_shl | apply k_shr
  | apply a_cons | apply n_lst | apply e_tup | apply e_ofN | apply c_l | apply x_c | apply e_B | apply n_B | apply e_isi
  | apply e_x | apply x_call | apply x_callE | apply x_callM | apply e_frzT | apply e_ap | apply i_seqL | apply i_seqT | apply i_enumL | apply i_enumT | apply i_range1 | apply i_range2 | apply n_lrng1 | apply n_lrng2)
local macro_rules
  | `(tactic| array_mem_dec) => `(tactic| repeat' first | exact e_frz (e_var rfl) | array_get_dec | exact e_var rfl | exact e_varO rfl | exact e_varI rfl | (refine as_call ?_; assumption) | exact k_neS | exact k_eqS | exact e_pop rfl | exact e_ixT (e_var rfl) e_C rfl | exact e_ixL (e_var rfl) e_C rfl | exact e_ixS (e_varI rfl) e_C rfl rfl | exact e_ixS (e_varO rfl) e_C rfl rfl | exact k_ninKS rfl | exact k_inKS rfl | exact k_lenI rfl | exact k_lenJ rfl | rfl | exact flat_int _ | (intro _))
local macro_rules
  | `(tactic| and_intros) => `(tactic| repeat (with_reducible first | apply w_seqN | apply w_seqA))
local macro_rules
  | `(tactic| bv_decide) => `(tactic| (and_intros; (with_reducible first | apply w_set | apply w_setX | apply w_setC | apply w_setG | apply w_expr | apply w_exprX | apply w_inc); array_mem_dec))
local macro_rules
  | `(tactic| bv_normalize) => `(tactic| (and_intros; apply w_ifN; array_mem_dec; (try (case hz => first | rfl | (simp [tyIs, isN, optI]; done) | (simp [tyIs, isN, optI]; omega))); and_intros))
local macro_rules
  | `(tactic| simp_all_arith) => `(tactic| (and_intros; apply w_ifY; array_mem_dec; (try (case hz => first | rfl | (simp [tyIs, isN, optI]; done) | (simp [tyIs, isN, optI]; omega))); and_intros))
local macro_rules
  | `(tactic| apply_assumption) => `(tactic| (and_intros; apply w_ifB; focus array_mem_dec))
local macro_rules
  | `(tactic| nofun) => `(tactic| (and_intros; (with_reducible first | apply w_ret | apply w_retX | apply w_retC | apply w_retO | apply w_ret0); array_mem_dec))
local macro_rules
  | `(tactic| ac_rfl) => `(tactic| (all_goals (try (with_reducible first | exact mulL (by decide) | exact mulR (by decide) | exact mulR (by omega) | exact mulL (by omega) | exact mulL (mod_64 (by decide) (by decide)) | exact modP (by first | assumption | decide | omega) | exact divP (by first | assumption | decide | omega) (by first | assumption | decide | omega) | exact cRng_of (by omega) (by omega) (by omega) (by omega)))))
end PD
section
open PySem L2 PD
local macro_rules
  | `(tactic| array_get_dec) => `(tactic| with_reducible first
  | exact e_C | exact a_nil | exact k_sub | exact k_and | exact k_or | exact k_eqI | exact k_neI | exact k_I | exact k_mx2 | exact k_mn2
  | apply e_I | apply e_add | apply e_neg | apply e_cmp | apply t_tst | apply t_not | apply e_not | apply t_or | apply t_and | apply e_and | apply e_or
  | apply k_mul | apply k_div | apply k_mod | apply k_pow | apply k_shl | apply k_shr
  | apply a_cons | apply n_lst | apply e_tup | apply e_ofN | apply c_l | apply x_c | apply e_B | apply n_B | apply e_isi
  | apply e_x | apply x_call | apply x_callE | apply x_callM | apply e_frzT | apply e_ap | apply i_seqL | apply i_seqT | apply i_enumL | apply i_enumT | apply i_range1 | apply i_range2 | apply n_lrng1 | apply n_lrng2)
local macro_rules
  | `(tactic| array_mem_dec) => `(tactic| repeat' first | exact e_frz (e_var rfl) | array_get_dec | exact e_var rfl | exact e_varO rfl | exact e_varI rfl | (refine as_call ?_; assumption) | exact k_neS | exact k_eqS | exact e_pop rfl | exact e_ixT (e_var rfl) e_C rfl | exact e_ixL (e_var rfl) e_C rfl | exact e_ixS (e_varI rfl) e_C rfl rfl | exact e_ixS (e_varO rfl) e_C rfl rfl | exact k_ninKS rfl | exact k_inKS rfl | exact k_lenI rfl | exact k_lenJ rfl | rfl | exact flat_int _ | (intro _))
local macro_rules
  | `(tactic| and_intros) => `(tactic| repeat (with_reducible first | apply w_seqN | apply w_seqA))
local macro_rules
  | `(tactic| bv_decide) => `(tactic| (and_intros; (with_reducible first | apply w_set | apply w_setX | apply w_setC | apply w_setG | apply w_expr | apply w_exprX | apply w_inc); array_mem_dec))
local macro_rules
  | `(tactic| bv_normalize) => `(tactic| (and_intros; apply w_ifN; array_mem_dec; (try (case hz => first | rfl | (simp [tyIs, isN, optI]; done) | (simp [tyIs, isN, optI]; omega))); and_intros))
local macro_rules
  | `(tactic| simp_all_arith) => `(tactic| (and_intros; apply w_ifY; array_mem_dec; (try (case hz => first | rfl | (simp [tyIs, isN, optI]; done) | (simp [tyIs, isN, optI]; omega))); and_intros))
local macro_rules
  | `(tactic| apply_assumption) => `(tactic| (and_intros; apply w_ifB; focus array_mem_dec))
local macro_rules
  | `(tactic| nofun) => `(tactic| (and_intros; (with_reducible first | apply w_ret | apply w_retX | apply w_retC | apply w_retO | apply w_ret0); array_mem_dec))
local macro_rules
  | `(tactic| ac_rfl) => `(tactic| (all_goals (try (with_reducible first | exact mulL (by decide) | exact mulR (by decide) | exact mulR (by omega) | exact mulL (by omega) | exact mulL (mod_64 (by decide) (by decide)) | exact modP (by first | assumption | decide | omega) | exact divP (by first | assumption | decide | omega) (by first | assumption | decide | omega) | exact cRng_of (by omega) (by omega) (by omega) (by omega)))))
set_option linter.all false
set_option maxRecDepth 100000
set_option autoImplicit false
namespace PD
open PySem L2
def WE (b : DS) (Γ : List Sl) (x : Exn) : Prop := b Γ = .exc x
section
variable {Γ Γ1 Γ2 : List Sl} {f g : DF} {b r r2 c2 : DS} {x : DX} {t : DT} {fr z : Bool} {d : PyData} {P : Fw → List Sl → Prop} {m i : Nat} {y : Exn} {k : DA} {as : List AV} {ds : List PyData}
theorem we_seqN (h : WE r Γ y) : WE (bSeq bNil r) Γ y := h
theorem we_seqA (h : WE (bSeq b (bSeq r r2)) Γ y) : WE (bSeq (bSeq b r) r2) Γ y := by
  have e : bSeq (bSeq b r) r2 Γ = bSeq b (bSeq r r2) Γ := by
    unfold bSeq
    rw [R.bind_assoc]
    congr 1
    funext z
    obtain ⟨w, Γ1⟩ := z
    cases w <;> rfl
  unfold WE
  rw [e]
  exact h
theorem we_ifY (h1 : t Γ = .val (z, Γ1)) (hz : z = true) (h : WE (bSeq b r) Γ1 y) : WE (bSeq (bIf t b c2) r) Γ y := by
  subst hz
  have e : bSeq (bIf t b c2) r Γ = bSeq b r Γ1 := by
    unfold bSeq bIf
    rw [h1, bind_val]; rfl
  unfold WE
  rw [e]; exact h
theorem we_ifN (h1 : t Γ = .val (z, Γ1)) (hz : z = false) (h : WE (bSeq c2 r) Γ1 y) : WE (bSeq (bIf t b c2) r) Γ y := by
  subst hz
  have e : bSeq (bIf t b c2) r Γ = bSeq c2 r Γ1 := by
    unfold bSeq bIf
    rw [h1, bind_val]; rfl
  unfold WE
  rw [e]; exact h
end
local macro_rules
  | `(tactic| injections) => `(tactic| repeat (with_reducible first | apply we_seqN | apply we_seqA))
local macro_rules
  | `(tactic| false_or_by_contra) => `(tactic| (injections; apply we_ifN; array_mem_dec; (try (case hz => first | rfl | (simp [tyIs, isN, optI]; done) | (simp [tyIs, isN, optI]; omega))); injections))
local macro_rules
  | `(tactic| subst_eqs) => `(tactic| (injections; apply we_ifY; array_mem_dec; (try (case hz => first | rfl | (simp [tyIs, isN, optI]; done) | (simp [tyIs, isN, optI]; omega))); injections))
end PD
section
open PySem L2 PD
local macro_rules
  | `(tactic| injections) => `(tactic| repeat (with_reducible first | apply we_seqN | apply we_seqA))
local macro_rules
  | `(tactic| false_or_by_contra) => `(tactic| (injections; apply we_ifN; array_mem_dec; (try (case hz => first | rfl | (simp [tyIs, isN, optI]; done) | (simp [tyIs, isN, optI]; omega))); injections))
local macro_rules
  | `(tactic| subst_eqs) => `(tactic| (injections; apply we_ifY; array_mem_dec; (try (case hz => first | rfl | (simp [tyIs, isN, optI]; done) | (simp [tyIs, isN, optI]; omega))); injections))
set_option linter.all false
set_option maxRecDepth 100000
set_option autoImplicit false
namespace PD
open PySem L2
def El (net : List (List Int)) (m e : Nat) : Prop := ∃ row, net[m]? = some row ∧ ((e : Nat) : Int) ∈ row
inductive Wk (net : List (List Int)) (y : Nat) : Nat → Nat → Prop
  | nil : Wk net y y 0
  | snoc {m n e : Nat} : Wk net y m n → El net m e → Wk net y e (n + 1)
theorem El.lt {net : List (List Int)} (hN : NetOk net) {m e : Nat} (h : El net m e) : e < m := by
  obtain ⟨row, h1, h2⟩ := h
  have := ((hN m row h1).1 _ h2).2
  omega
theorem Wk.le {net : List (List Int)} (hN : NetOk net) {y o n : Nat} (h : Wk net y o n) : o + n ≤ y := by
  induction h with
  | nil => omega
  | snoc a b ih => have := b.lt hN; omega
def Lst (S : Nat → Prop) : Option Nat → Prop
  | none => ∀ n, ¬ S n
  | some n => S n ∧ ∀ k, S k → n ≤ k
abbrev Ds (net : List (List Int)) (y o : Nat) (a : Option Nat) : Prop := Lst (Wk net y o) a
end PD
set_option linter.all false
set_option maxRecDepth 100000
set_option autoImplicit false
namespace PD
open PySem L2
theorem nodup_len : ∀ (n : Nat) (xs : List Int), xs.Nodup → (∀ x ∈ xs, 0 ≤ x ∧ x < (n : Int)) → xs.length ≤ n
  | 0, xs, _, h => by
    cases xs with
    | nil => simp
    | cons a r => have := h a (by simp); omega
  | n + 1, xs, hn, h => by
    have h1 := nodup_len n (xs.filter fun x => decide (x ≠ (n : Int))) (hn.sublist List.filter_sublist) fun x hx => by
      have q := List.mem_filter.mp hx
      have q1 := h x q.1
      have q2 : x ≠ (n : Int) := by simpa using q.2
      omega
    have h2 : (xs.filter fun x => decide (x ≠ (n : Int))).length + xs.count (n : Int) = xs.length := by
      have : xs.count (n : Int) = (xs.filter fun x => !decide (x ≠ (n : Int))).length := by
        rw [List.count_eq_length_filter]
        congr 1
        apply List.filter_congr
        intro x _
        by_cases e : x = (n : Int) <;> simp [e]
      rw [this]
      exact filt_sum (fun x => decide (x ≠ (n : Int))) xs
    have h3 : xs.count (n : Int) ≤ 1 := List.nodup_iff_count.mp hn _
    show xs.length ≤ n + 1
    have h1 : (xs.filter fun x => decide (x ≠ (n : Int))).length ≤ n := h1
    generalize (xs.filter fun x => decide (x ≠ (n : Int))).length = q at h1 h2
    omega
structure Mid (net : List (List Int)) (y L : Nat) (E : Nat → Prop) (kvs : List (Int × PyData)) (found : List Int) : Prop where
  has : ∀ e : Nat, (lookI kvs (e : Int)).isSome = true ↔ (∃ n, n ≤ L ∧ Wk net y e n) ∨ E e
  nat : ∀ k ∈ kvs.map (·.1), 0 ≤ k ∧ k < ((y + 1 : Nat) : Int)
  val : ∀ (e : Nat) (v : PyData), lookI kvs (e : Int) = some v → (e = y ∧ v = .none) ∨ ∃ m n : Nat, v = .int (m : Int) ∧ Ds net y m (some n) ∧ Ds net y e (some (n + 1)) ∧ El net m e
  fnd : ∀ x : Int, x ∈ found ↔ ∃ e : Nat, x = (e : Int) ∧ E e ∧ ¬ ∃ n, n ≤ L ∧ Wk net y e n
  nd : (kvs.map (·.1)).Nodup
  fl : found.length ≤ kvs.length
  fv : ∀ z ∈ kvs, flat z.2 = true
theorem Mid.len {net : List (List Int)} {y L : Nat} {E : Nat → Prop} {kvs : List (Int × PyData)} {found : List Int} (h : Mid net y L E kvs found) : kvs.length ≤ y + 1 := by
  have := nodup_len (y + 1) _ h.nd h.nat
  rw [List.length_map] at this
  exact this
theorem Mid.new {net : List (List Int)} (hN : NetOk net) {y L : Nat} {E : Nat → Prop} {kvs : List (Int × PyData)} {found : List Int} (h : Mid net y L E kvs found) {m e : Nat} (he : lookI kvs (e : Int) = none) (hm : Ds net y m (some L)) (hl : El net m e) :
    Mid net y L (fun x => E x ∨ x = e) (putI kvs (e : Int) (.int (m : Int))) (found ++ [(e : Int)]) := by
  have hno : ¬ ((∃ n, n ≤ L ∧ Wk net y e n) ∨ E e) := fun z => by
    have := (h.has e).mpr z
    rw [he] at this; cases this
  have hle := (Wk.snoc hm.1 hl).le hN
  refine ⟨fun x => ?_, ?_, fun x v hv => ?_, fun x => ?_, ?_, ?_, ?_⟩
  · rw [lookI_put]
    by_cases q : ((x : Nat) : Int) = (e : Nat)
    · rw [if_pos q]
      have : x = e := by omega
      simp [this]
    · rw [if_neg q, h.has]
      have : x ≠ e := by omega
      simp [this]
  · rw [putI_new _ he]
    intro k hk
    rw [List.map_append, List.mem_append] at hk
    rcases hk with hk | hk
    · exact h.nat k hk
    · have : k = (e : Int) := by simpa using hk
      omega
  · rw [lookI_put] at hv
    by_cases q : ((x : Nat) : Int) = (e : Nat)
    · rw [if_pos q] at hv
      have : x = e := by omega
      subst this
      cases hv
      refine .inr ⟨m, L, rfl, hm, ⟨.snoc hm.1 hl, fun k hk => ?_⟩, hl⟩
      by_cases z : k ≤ L
      · exact absurd (.inl ⟨k, z, hk⟩) hno
      · omega
    · rw [if_neg q] at hv
      exact h.val x v hv
  · rw [List.mem_append, h.fnd]
    constructor
    · rintro (⟨z, h1, h2, h3⟩ | h1)
      · exact ⟨z, h1, .inl h2, h3⟩
      · exact ⟨e, by simpa using h1, .inr rfl, fun z => hno (.inl z)⟩
    · rintro ⟨z, h1, h2 | h2, h3⟩
      · exact .inl ⟨z, h1, h2, h3⟩
      · subst h2; exact .inr (by simp [h1])
  · rw [putI_new _ he, List.map_append, List.nodup_append]
    refine ⟨h.nd, by simp, fun a ha b hb => ?_⟩
    have : b = (e : Int) := by simpa using hb
    subst this
    rintro rfl
    obtain ⟨z, hz, hz2⟩ := List.mem_map.mp ha
    exact lookI_none.mp he z.2 (by rw [← hz2]; exact hz)
  · rw [putI_new _ he]
    have := h.fl
    simp; omega
  · rw [putI_new _ he]
    intro z hz
    rcases List.mem_append.mp hz with hz | hz
    · exact h.fv z hz
    · have : z = ((e : Int), PyData.int (m : Int)) := by simpa using hz
      subst this; rfl
abbrev YOk (net : List (List Int)) (y L : Nat) (kvs : List (Int × PyData)) : Prop := Mid net y L (fun _ => False) kvs []
structure WayOk (net : List (List Int)) (y o n : Nat) (w : List Nat) : Prop where
  len : w.length = n + 1
  fst : w[0]? = some y
  lst : w[n]? = some o
  stp : ∀ (k a b : Nat), w[k]? = some a → w[k + 1]? = some b → El net a b
end PD
set_option linter.all false
set_option maxRecDepth 100000
set_option autoImplicit false
namespace PD
open PySem L2
structure Ord (rows : List (List Int)) (order back : List Nat) : Prop where
  ol : order.length = rows.length
  bl : back.length = rows.length
  ob : ∀ p m : Nat, order[p]? = some m → back[m]? = some p
  bo : ∀ m p : Nat, back[m]? = some p → order[p]? = some m
  top : ∀ m e : Nat, El rows m e → ∀ p : Nat, back[m]? = some p → ∃ q : Nat, back[e]? = some q ∧ q < p
theorem Ord.lt {rows : List (List Int)} {order back : List Nat} (h : Ord rows order back) {p m : Nat} (hp : order[p]? = some m) : m < rows.length := by
  rw [← h.bl]
  exact (List.getElem?_eq_some_iff.mp (h.ob p m hp)).1
end PD
set_option linter.all false
set_option maxRecDepth 100000
set_option autoImplicit false
namespace PD
open PySem L2
end PD
set_option linter.all false
set_option maxRecDepth 100000
set_option maxHeartbeats 0
set_option autoImplicit false
namespace PD
open PySem L2
theorem n_compS {α : Type} {enc : α → PyData} (xs : List α) {S : Type} (Rel : Nat → List PyData → S → Prop) (sh : S → List Sl) (s0 : S) {vs : List Nat} {g : DG} {it : DI} {t : DT} {e : DF} {Γ Γ1 : List Sl} {fr : Bool} (h1 : it Γ = .val ((xs.map enc, fr), Γ1)) (hs : xs.length < 2 ^ 20) (h0 : wipeG Γ1 vs = sh s0) (hr : Rel 0 [] s0)
    (hb : ∀ (i : Nat) (x : α) (out : List PyData) (s : S), xs[i]? = some x → Rel i out s → ∃ Γ2, g fr (enc x) (sh s) = some Γ2 ∧ ∃ z Γ3, t Γ2 = .val (z, Γ3) ∧ (z = true → ∃ o Γ4 s', e Γ3 = .val (.d true o, Γ4) ∧ wipeG Γ4 vs = sh s' ∧ Rel (i + 1) (out ++ [o]) s') ∧ (z = false → ∃ s', wipeG Γ3 vs = sh s' ∧ Rel (i + 1) out s')) :
    ∃ out s, nComp vs g it t e Γ = .val (out, sh s) ∧ Rel xs.length out s := by
  have key : Ok (nComp vs g it t e Γ) fun z => ∃ s, z.2 = sh s ∧ Rel xs.length z.1 s := by
    unfold nComp
    rw [h1, bind_val]
    have : szB (xs.map enc) = true := szB_map hs
    show Ok ((R.req (szB (xs.map enc))).bind _) _
    rw [this, req_true, bind_val, h0]
    refine ok_compU (fun i out Γ => ∃ s, Γ = sh s ∧ Rel i out s) (xs.map enc) ⟨s0, rfl, hr⟩ (fun i d out Γ hd hI => ?_) fun out Γ hI => ?_
    · obtain ⟨s, rfl, hI⟩ := hI
      obtain ⟨x, hx, rfl⟩ := gmap hd
      obtain ⟨Γ2, q1, z, Γ3, q2, hT, hF⟩ := hb i x out s hx hI
      refine ⟨Γ2, q1, ok_of q2 ?_⟩
      cases z with
      | true =>
        obtain ⟨o, Γ4, s', q3, q4, q5⟩ := hT rfl
        exact ok_of q3 ⟨o, rfl, s', q4, q5⟩
      | false =>
        obtain ⟨s', q4, q5⟩ := hF rfl
        exact ⟨s', q4, q5⟩
    · rw [List.length_map] at hI
      exact hI
  obtain ⟨⟨out, Γ'⟩, e1, s, h2, h3⟩ := key
  have h2 : Γ' = sh s := h2
  subst h2
  exact ⟨out, s, e1, h3⟩
abbrev Dk3 := Int × Int × Int
abbrev dk (d : Dk3) : Cl := .lst [.int d.1, .int d.2.1, .int d.2.2]
def BB (d : Dk3) (B : Nat) : Prop := 0 ≤ d.2.1 ∧ d.2.1 ≤ (B : Int)
theorem BB.mono {d : Dk3} {B C : Nat} (h : BB d B) (hc : B ≤ C) : BB d C := ⟨h.1, by have := h.2; omega⟩
end PD
set_option linter.all false
set_option maxRecDepth 100000
set_option maxHeartbeats 0
set_option autoImplicit false
namespace PD
open PySem L2
theorem x_cut0 {Γ Γ1 Γ2 : List Sl} {f : DF} {o : DO} {a : AV} {ds : List PyData} {n : Int} (h1 : f Γ = .val (a, Γ1)) (h2 : o Γ1 = .val (some n, Γ2)) (h3 : lsA Γ2 a = some ds) (hn : 0 ≤ n) : xCut f oNone o Γ = .val (.c (.lst (ds.take n.toNat)), Γ2) := by
  unfold xCut
  rw [h1, bind_val]
  show ((o Γ1).bind _) = _
  rw [h2, bind_val]
  unfold cutX
  simp only [h3]
  show R.val (Rs.c (Cl.lst (cutD ds none (some n))), Γ2) = _
  have : cutD ds none (some n) = ds.take n.toNat := by
    obtain ⟨k, rfl⟩ : ∃ k : Nat, n = (k : Int) := ⟨n.toNat, by omega⟩
    unfold cutD
    rw [HT.sIx_none, HT.sIx_nat, List.drop_zero, Nat.sub_zero, Int.toNat_natCast]
    by_cases h : k ≤ ds.length
    · rw [Nat.min_eq_left h]
    · rw [Nat.min_eq_right (by omega), List.take_length, List.take_of_length_le (by omega)]
  rw [this]
theorem o_some {Γ Γ1 : List Sl} {f : DF} {fr : Bool} {n : Int} (h : f Γ = .val (.d fr (.int n), Γ1)) : oSome f Γ = .val (some n, Γ1) := by unfold oSome; rw [h]; rfl
end PD
set_option linter.all false
set_option maxRecDepth 100000
set_option maxHeartbeats 0
set_option autoImplicit false
namespace PD
open PySem L2
end PD
set_option linter.all false
set_option maxRecDepth 100000
set_option autoImplicit false
namespace PD
open PySem L2
inductive BarD : PyData → List Int → Prop
  | l (ns : List Int) : BarD (dL ns) ns
  | t (ns : List Int) : BarD (dT ns) ns
  | n : BarD .none []
end PD
set_option linter.all false
set_option maxRecDepth 100000
set_option maxHeartbeats 0
set_option autoImplicit false
namespace PD
open PySem L2
end PD
set_option linter.all false
set_option maxRecDepth 100000
set_option maxHeartbeats 0
set_option autoImplicit false
namespace PD
open PySem L2
end PD
set_option linter.all false
set_option maxRecDepth 100000
set_option maxHeartbeats 0
set_option autoImplicit false
namespace PD
open PySem L2
def Ow (n : Nat) (ks : List Int) (P : Nat → Prop) : Prop := ks.Nodup ∧ (∀ y ∈ ks, 0 ≤ y ∧ y < (n : Int)) ∧ ks ≠ [] ∧ ∀ j : Nat, (j : Int) ∈ ks ↔ P j
theorem Ow.len {n : Nat} {ks : List Int} {P : Nat → Prop} (h : Ow n ks P) : ks.length ≤ n := nodup_len n ks h.1 h.2.1
def ansL : List Str := ["good", "bad", "cannot"]
end PD
set_option linter.all false
set_option maxRecDepth 100000
set_option maxHeartbeats 0
set_option autoImplicit false
namespace PD
open PySem L2
abbrev Tr := Int × Str
def TrOk (n : Nat) (ts : List Tr) : Prop := ∀ q ∈ ts, 0 ≤ q.1 ∧ q.1 < (n : Int) ∧ q.2 ∈ ansL
section
variable (net : List (List Int)) (bs : List Int) (eb : uBitsOf [.d (dTT net)] = .val (.c (.lst (bs.map PyData.int)), [.un])) (hbl : bs.length = net.length) (hn : net.length ≤ 1000) (tp : Bool) (ts : List Tr) (hts : TrOk net.length ts) (hl : ts.length < 2 ^ 20) (lies : Int)
end
end PD
set_option linter.all false
set_option maxRecDepth 100000
set_option maxHeartbeats 0
set_option autoImplicit false
namespace PD
open PySem L2
section
variable (net : List (List Int)) (bs : List Int) (eb : uBitsOf [.d (dTT net)] = .val (.c (.lst (bs.map PyData.int)), [.un])) (hbl : bs.length = net.length) (hn : net.length ≤ 1000) (tp : Bool) (ts : List Tr) (hts : TrOk net.length ts) (hl : ts.length < 2 ^ 20) (lies : Int)
include eb hbl hn hts hl in
end
end PD
set_option linter.all false
set_option maxRecDepth 100000
set_option maxHeartbeats 0
set_option autoImplicit false
namespace PD
open PySem L2
inductive Pl where
  | lf (ms : List Int)
  | tr (m : Int) (b g : Pl)
def dpt : Pl → Nat
  | .lf _ => 0
  | .tr _ b g => 1 + max (dpt b) (dpt g)
end PD
set_option linter.all false
set_option maxRecDepth 100000
set_option maxHeartbeats 0
set_option autoImplicit false
namespace PD
open PySem L2
theorem pen_p (ns : List Int) (k : Nat) (hl : ns.length ≤ 1000) (hk : k ≤ 1000) : ∃ d : Dk3, u_qpen [.d (dL ns), .d (.int (k : Nat))] = .val (.c (dk d), [.un, .un]) := by
  have key : Ok (u_qpen [.d (dL ns), .d (.int (k : Nat))]) fun z => ∃ d : Dk3, z = (.c (dk d), [.un, .un]) := by
    refine ok_run rfl ?_
    unfold b_qpen
    apply w_set
    · exact e_add (e_I e_C (e_var rfl) (k_mul (mulL (by decide)))) e_C
    refine w_ifJ (S := Int) (fun _ => True) (fun c => [.dat false (dL ns), .dat true (.int (k : Nat)), .dat true (.int c)]) (t_tst (e_cmp (e_B (a_cons (e_var rfl) a_nil) (k_lenI rfl)) e_C k_I)) ?_ ?_ ?_
    · intro hz
      have hz : 0 < ns.length := by
        have := of_decide_eq_true hz; omega
      obtain ⟨j, hj, hj2⟩ : ∃ j : Nat, ((k : Nat) : Int) % ((ns.length : Nat) : Int) = (j : Int) ∧ j < ns.length := ⟨k % ns.length, by omega, Nat.mod_lt _ hz⟩
      obtain ⟨x, hx⟩ : ∃ x, ns[j]? = some x := ⟨_, List.getElem?_eq_getElem hj2⟩
      apply w_set
      · apply e_add
        · exact e_ixL (e_var rfl) (e_I (e_var rfl) (e_B (a_cons (e_var rfl) a_nil) (k_lenI rfl)) (k_mod (modP (by omega)))) (by rw [hj]; exact at_nat hx)
        · exact e_I e_C (e_I (e_var rfl) (e_B (a_cons (e_var rfl) a_nil) (k_lenI rfl)) (k_div (divP (by omega) (by omega)))) (k_mul (mulL (by decide)))
      exact w_nil ⟨_, rfl, trivial⟩
    · intro _
      exact w_nil ⟨_, rfl, trivial⟩
    · intro c _
      apply w_ifB
      · exact t_tst (e_cmp (e_var rfl) (e_I e_C e_C (k_pow rfl)) k_I)
      · intro _
        and_intros
        apply w_retC
        · exact c_l (n_lst (a_cons (e_frz (e_var rfl)) (a_cons e_C (a_cons (e_I (e_var rfl) e_C (k_mod (modP (by decide)))) a_nil))) rfl rfl)
        exact ⟨_, _, rfl, rfl, (c, 0, _), rfl⟩
      · intro _
        and_intros
        apply w_retC
        · exact c_l (n_lst (a_cons e_C (a_cons e_C (a_cons (e_I (e_var rfl) e_C (k_mod (modP (by decide)))) a_nil))) rfl rfl)
        exact ⟨_, _, rfl, rfl, (0, 0, _), rfl⟩
  obtain ⟨z, e, d, rfl⟩ := key
  exact ⟨d, e⟩
theorem take_nG (d : Dk3) (m : Int) (hm : 0 < m) (hm2 : ∀ i, cDiv i m = true) : ∃ (r : Int) (d' : Dk3), u_qtake_k34 [.c (dk d), .d (.int m)] = .val (.d (.int r), [.io (dk d'), .un]) ∧ 0 ≤ r ∧ r < m := by
  have key : Ok (u_qtake_k34 [.c (dk d), .d (.int m)]) fun z => ∃ (r : Int) (d' : Dk3), z = (.d (.int r), [.io (dk d'), .un]) ∧ 0 ≤ r ∧ r < m := by
    refine ok_run rfl ?_
    unfold b_qtake_k34
    apply w_ifB
    · exact t_tst (e_cmp (e_ixS (e_varI rfl) e_C rfl rfl) e_C k_I)
    · intro _
      and_intros
      apply w_set
      · exact e_I (e_ixS (e_varI rfl) e_C rfl rfl) (e_var rfl) (k_mod (modP hm))
      and_intros
      apply w_put
      · exact e_frz (e_I (e_ixS (e_varI rfl) e_C rfl rfl) (e_var rfl) (k_div (hm2 _)))
      · rfl
      · exact e_C
      · rfl
      · exact putC_lst (j := 0) (by simp)
      and_intros
      apply w_ret
      · exact e_var rfl
      exact ⟨_, _, rfl, rfl, _, (d.1 / m, d.2.1, d.2.2), rfl, Int.emod_nonneg _ (by omega), Int.emod_lt_of_pos _ hm⟩
    · intro _
      and_intros
      apply w_put
      · exact e_frz (e_add (e_ixS (e_varI rfl) e_C rfl rfl) e_C)
      · rfl
      · exact e_C
      · rfl
      · exact putC_lst (j := 1) (by simp)
      apply w_set
      · exact e_I (e_I (e_add (e_ixS (e_varI rfl) e_C rfl rfl) (e_I e_C (e_ixS (e_varI rfl) e_C rfl rfl) (k_mul (mulL (by decide))))) e_C (k_mul (mulR (by decide)))) e_C (k_mod (modP (by decide)))
      apply w_set
      · exact e_I (e_add (e_I (e_var rfl) (e_var rfl) (k_mul (mulL (mod_64 (by decide) (by decide))))) (e_I e_C (e_ixS (e_varI rfl) e_C rfl rfl) (k_mul (mulL (by decide))))) e_C (k_mod (modP (by decide)))
      apply w_ret
      · exact e_I (e_I (e_var rfl) e_C (k_div (divP (by decide) (by decide)))) (e_var rfl) (k_mod (modP hm))
      exact ⟨_, _, rfl, rfl, _, (d.1, d.2.1 + 1, d.2.2), rfl, Int.emod_nonneg _ (by omega), Int.emod_lt_of_pos _ hm⟩
  obtain ⟨z, e, r, d', rfl, h⟩ := key
  exact ⟨r, d', e, h⟩
theorem take_n (d : Dk3) (m : Int) (hm : 0 < m) (hm2 : m < 2 ^ 64) : ∃ (r : Int) (d' : Dk3), u_qtake_k34 [.c (dk d), .d (.int m)] = .val (.d (.int r), [.io (dk d'), .un]) ∧ 0 ≤ r ∧ r < m := take_nG d m hm fun _ => divP hm hm2
end PD
set_option linter.all false
set_option maxRecDepth 100000
set_option maxHeartbeats 0
set_option autoImplicit false
namespace PD
open PySem L2
def room (lies : Int) : List (Int × Int) → Int
  | [] => 0
  | z :: st => (lies + 1 - z.2) + room lies st
end PD
set_option linter.all false
set_option maxRecDepth 100000
set_option maxHeartbeats 0
set_option autoImplicit false
namespace PD
open PySem L2
end PD
set_option linter.all false
set_option maxRecDepth 100000
set_option autoImplicit false
namespace PD
open PySem L2
end PD
set_option linter.all false
set_option maxRecDepth 100000
set_option maxHeartbeats 0
set_option autoImplicit false
namespace PD
open PySem L2
def lvs : Pl → List (List Str × List Int)
  | .lf ms => [([], ms)]
  | .tr _ b g => (lvs b).map (fun z => (("bad" : Str) :: z.1, z.2)) ++ (lvs g).map fun z => (("good" : Str) :: z.1, z.2)
end PD
set_option linter.all false
set_option maxRecDepth 100000
set_option maxHeartbeats 0
set_option autoImplicit false
namespace PDW
open PySem L2 PD
structure NKey {κ : Type} (kD : κ → PyData) : Prop where
  ok : ∀ k, nkOk (kD k) = true
  inj : ∀ a b, nkD (kD a) = nkD (kD b) → a = b
  eq : ∀ a, eqN (kD a) (kD a) = true
section
variable {κ ω : Type} {kD : κ → PyData} {vD : ω → PyData}
abbrev nD (kD : κ → PyData) (vD : ω → PyData) (l : List (κ × ω)) : List (PyData × PyData) := l.map fun z => (kD z.1, vD z.2)
variable {f g : DF} {Γ Γ1 Γ2 : List Sl} {fr fr2 : Bool} {m : Nat}
end
end PDW
set_option linter.all false
set_option maxRecDepth 100000
set_option autoImplicit false
namespace PD
open PySem L2
end PD
set_option linter.all false
set_option maxRecDepth 100000
set_option autoImplicit false
namespace PD
open PySem L2
end PD
set_option linter.all false
set_option maxRecDepth 100000
set_option autoImplicit false
namespace PD
open PySem L2
def b_p_depth_of : Nat → DS
  | 0 => bBad
  | n + 1 => (bSeq (bIf (dTst (dCmp kEq (dIxB (dVar 0) (dC (.int 0))) (dC (.str "left")))) (bSeq (bRet (dC (.int 0))) bNil) bNil) (bSeq (bRet (dAdd (dC (.int 1)) (dB kMax1 (dAc (dOfN (nComp [1, 2] (gT2 (gN 1) (gN 2)) (iSeq (dIxB (dVar 0) (dC (.int 2)))) tYes (dFrz (eX (xCall (runB 3 1 (b_p_depth_of n)) [] (dAc (dVar 2) dA0)))))) dA0)))) bNil))
def u_p_depth_of (n : Nat) : List Ar → R (Rs × List Sl) := runB 3 1 (b_p_depth_of n)
end PD
set_option Elab.async false
set_option linter.all false
set_option maxRecDepth 100000
set_option maxHeartbeats 0
set_option autoImplicit false
namespace PDW
open PySem PySem.Spec PyProof.Rows L2 PD
structure Env (K : PySem.W.Frag) (mg : Str → Option Value) : Prop where
  d_p_law : ∃ f fd, FunD K "law" "law" (defArgs (top 10)) (defBody (top 10)) (defScope (top 10)) [] [] f fd ∧ mg "law" = some (.ref f)
  d_qpen : ∃ f fd, FunD K "_law_pen" "_law_pen" (defArgs (top 3)) (defBody (top 3)) (defScope (top 3)) [] [] f fd ∧ mg "_law_pen" = some (.ref f)
  d_qgrown : ∃ f fd, FunD K "_law_grown" "_law_grown" (defArgs (top 7)) (defBody (top 7)) (defScope (top 7)) [] [] f fd ∧ mg "_law_grown" = some (.ref f)
  d_qtake : ∃ f fd, FunD K "_law_take" "_law_take" (defArgs (top 4)) (defBody (top 4)) (defScope (top 4)) [] [] f fd ∧ mg "_law_take" = some (.ref f)
  d_qleft : ∃ f fd, FunD K "_law_left" "_law_left" (defArgs (top 5)) (defBody (top 5)) (defScope (top 5)) [] [] f fd ∧ mg "_law_left" = some (.ref f)
  d_qanswers : ∃ f fd, FunD K "_law_answers" "_law_answers" (defArgs (top 6)) (defBody (top 6)) (defScope (top 6)) [] [] f fd ∧ mg "_law_answers" = some (.ref f)
  d_qplan : ∃ f fd, FunD K "_law_plan" "_law_plan" (defArgs (top 8)) (defBody (top 8)) (defScope (top 8)) [] [] f fd ∧ mg "_law_plan" = some (.ref f)
  d_p_depth_of : ∃ f fd, FunD K "depth_of" "depth_of" (defArgs (top 1)) (defBody (top 1)) (defScope (top 1)) [] [] f fd ∧ mg "depth_of" = some (.ref f)
  d_qmost : ∃ f fd, FunD K "_law_most" "_law_most" (defArgs (top 9)) (defBody (top 9)) (defScope (top 9)) [] [] f fd ∧ mg "_law_most" = some (.ref f)
  b_range : mg "range" = none
  b_len : mg "len" = none
  b_tuple : mg "tuple" = none
  b_max : mg "max" = none
  b_isinstance : mg "isinstance" = none
  b_int : mg "int" = none
  b_bool : mg "bool" = none
theorem sc_qpen : FnScope ["_law_script", "_law_k", "_law_cell"] ["_law_script", "_law_k"] (defScope (top 3)) := ⟨rfl, rfl, rfl, by decide +kernel, rfl, by decide +kernel, by decide +kernel⟩
theorem fo_qpen {P : Program} {w : World} {K : PySem.W.Frag} {mg : Str → Option Value} {base : Heap} (E : Env K mg) {f : Addr} {fd : FuncData} (F : FunD K "_law_pen" "_law_pen" (defArgs (top 3)) (defBody (top 3)) (defScope (top 3)) [] [] f fd) : FnOk P w K mg base (L2.CX P w) (0 + 1) f fd ["_law_script", "_law_k"] (spU K mg u_qpen) := by
  refine fn_u (N := ["_law_script", "_law_k", "_law_cell"]) (ps := ["_law_script", "_law_k"]) (k := 0) F sc_qpen (b := b_qpen) (by decide) fun X W h => ?_
  have C := h.cf
  have hb_len : X.mg "len" = none := by rw [h.mg]; exact E.b_len
  have n0 : (["_law_script", "_law_k", "_law_cell"] : List Str)[0]? = some ("_law_script" : Str) := rfl
  have v0 : visB (defScope (top 3)) "_law_script" = true := by decide +kernel
  have s0 : Sto X (defScope (top 3)) "_law_script" := sto_c h.fn (by decide +kernel)
  have n1 : (["_law_script", "_law_k", "_law_cell"] : List Str)[1]? = some ("_law_k" : Str) := rfl
  have v1 : visB (defScope (top 3)) "_law_k" = true := by decide +kernel
  have s1 : Sto X (defScope (top 3)) "_law_k" := sto_c h.fn (by decide +kernel)
  have n2 : (["_law_script", "_law_k", "_law_cell"] : List Str)[2]? = some ("_law_cell" : Str) := rfl
  have v2 : visB (defScope (top 3)) "_law_cell" = true := by decide +kernel
  have s2 : Sto X (defScope (top 3)) "_law_cell" := sto_c h.fn (by decide +kernel)
  unfold b_qpen
  exact (cs_cons (c1_set C.toCf0 2 n2 s2 (ce_add (ce_mul ce_int (ce_var C.toCf0 1 n1 (by decide +kernel))) ce_int)) (cs_cons (c1_if (ct_cmp (ce_gt (ce_len C.toCf0 (by decide +kernel) hb_len (ca_cons (ce_var C.toCf0 0 n0 (by decide +kernel)) ca_nil)) ce_int)) (cs_cons (c1_set C.toCf0 2 n2 s2 (ce_add (ce_ixB C.toCf0 (ce_var C.toCf0 0 n0 (by decide +kernel)) (ce_mod (ce_var C.toCf0 1 n1 (by decide +kernel)) (ce_len C.toCf0 (by decide +kernel) hb_len (ca_cons (ce_var C.toCf0 0 n0 (by decide +kernel)) ca_nil)))) (ce_mul ce_int (ce_fdiv (ce_var C.toCf0 1 n1 (by decide +kernel)) (ce_len C.toCf0 (by decide +kernel) hb_len (ca_cons (ce_var C.toCf0 0 n0 (by decide +kernel)) ca_nil)))))) cs_nil) cs_nil) (cs_cons (c1_if (ct_cmp (ce_ge (ce_var C.toCf0 2 n2 (by decide +kernel)) (ce_pow ce_int ce_int))) (cs_cons (c1_retC (cc_l (cn_lst (ca_cons (ce_frz (ce_var C.toCf0 2 n2 (by decide +kernel))) (ca_cons ce_int (ca_cons (ce_mod (ce_var C.toCf0 2 n2 (by decide +kernel)) ce_int) ca_nil)))))) cs_nil) cs_nil) (cs_cons (c1_retC (cc_l (cn_lst (ca_cons ce_int (ca_cons ce_int (ca_cons (ce_mod (ce_var C.toCf0 2 n2 (by decide +kernel)) ce_int) ca_nil)))))) cs_nil))))
theorem ok_qpen {P : Program} {w : World} {K : PySem.W.Frag} {mg : Str → Option Value} {base : Heap} (E : Env K mg) : Gv P w K mg base (0 + 1) "_law_pen" [] (spU K mg u_qpen) := by
  obtain ⟨f, fd, F, hmg⟩ := E.d_qpen
  exact Gv.of F hmg (fo_qpen E F) (F.bindsN fun _ _ _ _ _ _ us hl => match us, hl with | [_, _], _ => rfl) .nil
theorem sc_qtake : FnScope ["_law_pen_here", "_law_size", "_law_found", "_law_number"] ["_law_pen_here", "_law_size"] (defScope (top 4)) := ⟨rfl, rfl, rfl, by decide +kernel, rfl, by decide +kernel, by decide +kernel⟩
theorem fo_qtake {P : Program} {w : World} {K : PySem.W.Frag} {mg : Str → Option Value} {base : Heap} (E : Env K mg) {f : Addr} {fd : FuncData} (F : FunD K "_law_take" "_law_take" (defArgs (top 4)) (defBody (top 4)) (defScope (top 4)) [] [] f fd) : FnOk P w K mg base (L2.CX P w) (0 + 1) f fd ["_law_pen_here", "_law_size"] (spU K mg u_qtake_k34) := by
  refine fn_u (N := ["_law_pen_here", "_law_size", "_law_found", "_law_number"]) (ps := ["_law_pen_here", "_law_size"]) (k := 0) F sc_qtake (b := b_qtake_k34) (by decide) fun X W h => ?_
  have C := h.cf
  have n0 : (["_law_pen_here", "_law_size", "_law_found", "_law_number"] : List Str)[0]? = some ("_law_pen_here" : Str) := rfl
  have v0 : visB (defScope (top 4)) "_law_pen_here" = true := by decide +kernel
  have s0 : Sto X (defScope (top 4)) "_law_pen_here" := sto_c h.fn (by decide +kernel)
  have n1 : (["_law_pen_here", "_law_size", "_law_found", "_law_number"] : List Str)[1]? = some ("_law_size" : Str) := rfl
  have v1 : visB (defScope (top 4)) "_law_size" = true := by decide +kernel
  have s1 : Sto X (defScope (top 4)) "_law_size" := sto_c h.fn (by decide +kernel)
  have n2 : (["_law_pen_here", "_law_size", "_law_found", "_law_number"] : List Str)[2]? = some ("_law_found" : Str) := rfl
  have v2 : visB (defScope (top 4)) "_law_found" = true := by decide +kernel
  have s2 : Sto X (defScope (top 4)) "_law_found" := sto_c h.fn (by decide +kernel)
  have n3 : (["_law_pen_here", "_law_size", "_law_found", "_law_number"] : List Str)[3]? = some ("_law_number" : Str) := rfl
  have v3 : visB (defScope (top 4)) "_law_number" = true := by decide +kernel
  have s3 : Sto X (defScope (top 4)) "_law_number" := sto_c h.fn (by decide +kernel)
  unfold b_qtake_k34
  exact (cs_cons (c1_if (ct_cmp (ce_gt (ce_ixB C.toCf0 (ce_var C.toCf0 0 n0 (by decide +kernel)) ce_int) ce_int)) (cs_cons (c1_set C.toCf0 2 n2 s2 (ce_mod (ce_ixB C.toCf0 (ce_var C.toCf0 0 n0 (by decide +kernel)) ce_int) (ce_var C.toCf0 1 n1 (by decide +kernel)))) (cs_cons (c1_put C.toCf0 0 n0 v0 (ce_fdiv (ce_ixB C.toCf0 (ce_var C.toCf0 0 n0 (by decide +kernel)) ce_int) (ce_var C.toCf0 1 n1 (by decide +kernel))) ce_int) (cs_cons (c1_ret (ce_var C.toCf0 2 n2 (by decide +kernel))) cs_nil))) cs_nil) (cs_cons (c1_put C.toCf0 0 n0 v0 (ce_add (ce_ixB C.toCf0 (ce_var C.toCf0 0 n0 (by decide +kernel)) ce_int) ce_int) ce_int) (cs_cons (c1_set C.toCf0 3 n3 s3 (ce_mod (ce_mul (ce_add (ce_ixB C.toCf0 (ce_var C.toCf0 0 n0 (by decide +kernel)) ce_int) (ce_mul ce_int (ce_ixB C.toCf0 (ce_var C.toCf0 0 n0 (by decide +kernel)) ce_int))) ce_int) ce_int)) (cs_cons (c1_set C.toCf0 3 n3 s3 (ce_mod (ce_add (ce_mul (ce_var C.toCf0 3 n3 (by decide +kernel)) (ce_var C.toCf0 3 n3 (by decide +kernel))) (ce_mul ce_int (ce_ixB C.toCf0 (ce_var C.toCf0 0 n0 (by decide +kernel)) ce_int))) ce_int)) (cs_cons (c1_ret (ce_mod (ce_fdiv (ce_var C.toCf0 3 n3 (by decide +kernel)) ce_int) (ce_var C.toCf0 1 n1 (by decide +kernel)))) cs_nil)))))
theorem ok_qtake {P : Program} {w : World} {K : PySem.W.Frag} {mg : Str → Option Value} {base : Heap} (E : Env K mg) : Gv P w K mg base (0 + 1) "_law_take" [] (spU K mg u_qtake_k34) := by
  obtain ⟨f, fd, F, hmg⟩ := E.d_qtake
  exact Gv.of F hmg (fo_qtake E F) (F.bindsN fun _ _ _ _ _ _ us hl => match us, hl with | [_, _], _ => rfl) .nil
theorem sc_qleft : FnScope ["_law_pen_here", "_law_first", "_law_k"] ["_law_pen_here"] (defScope (top 5)) := ⟨rfl, rfl, rfl, by decide +kernel, rfl, by decide +kernel, by decide +kernel⟩
theorem fo_qleft {P : Program} {w : World} {K : PySem.W.Frag} {mg : Str → Option Value} {base : Heap} (E : Env K mg) {f : Addr} {fd : FuncData} (F : FunD K "_law_left" "_law_left" (defArgs (top 5)) (defBody (top 5)) (defScope (top 5)) [] [] f fd) : FnOk P w K mg base (L2.CX P w) (1 + 1) f fd ["_law_pen_here"] (spU K mg u_qleft) := by
  refine fn_u (N := ["_law_pen_here", "_law_first", "_law_k"]) (ps := ["_law_pen_here"]) (k := 1) F sc_qleft (b := b_qleft) (by decide) fun X W h => ?_
  have C := h.cf
  have hb_tuple : X.mg "tuple" = none := by rw [h.mg]; exact E.b_tuple
  have hb_range : X.mg "range" = none := by rw [h.mg]; exact E.b_range
  have c_qtake := (ok_qtake (P := P) (w := w) (base := base) E).u h (by omega)
  have n0 : (["_law_pen_here", "_law_first", "_law_k"] : List Str)[0]? = some ("_law_pen_here" : Str) := rfl
  have v0 : visB (defScope (top 5)) "_law_pen_here" = true := by decide +kernel
  have s0 : Sto X (defScope (top 5)) "_law_pen_here" := sto_c h.fn (by decide +kernel)
  have n1 : (["_law_pen_here", "_law_first", "_law_k"] : List Str)[1]? = some ("_law_first" : Str) := rfl
  have v1 : visB (defScope (top 5)) "_law_first" = true := by decide +kernel
  have s1 : Sto X (defScope (top 5)) "_law_first" := sto_c h.fn (by decide +kernel)
  have n2 : (["_law_pen_here", "_law_first", "_law_k"] : List Str)[2]? = some ("_law_k" : Str) := rfl
  unfold b_qleft
  exact (cs_cons (c1_set C.toCf0 1 n1 s1 (ce_x (cx_callC C.toCf0 0 c_qtake (by decide +kernel) (fun _ _ => .nil) (ca_cons (ce_var C.toCf0 0 n0 (by decide +kernel)) (ca_cons ce_int ca_nil))))) (cs_cons (c1_retC (cc_l (cn_lst (ca_cons ce_str (ca_cons (ce_tuple C.toCf0 (by decide +kernel) hb_tuple (ca_cons (ce_ofN (cn_comp C (CompU.mk (own := [("_law_k", 2)]) (ci_range1 C.toCf0 (by decide +kernel) hb_range (ce_add ce_int (ce_x (cx_callC C.toCf0 0 c_qtake (by decide +kernel) (fun _ _ => .nil) (ca_cons (ce_var C.toCf0 0 n0 (by decide +kernel)) (ca_cons ce_int ca_nil)))))) (by decide +kernel) (fun _ _ _ _ _ => (cg_name (Cf.blk C).toCf0 2 n2 (sto_l (by decide +kernel)))) (fun _ _ _ _ _ => cts_nil) (fun _ _ _ _ _ => (ce_frz (ce_add (ce_var (Cf.blk C).toCf0 1 n1 (by decide +kernel)) (ce_var (Cf.blk C).toCf0 2 n2 (by decide +kernel))))) (by decide) (fun _ => rfl)))) ca_nil)) ca_nil))))) cs_nil))
theorem ok_qleft {P : Program} {w : World} {K : PySem.W.Frag} {mg : Str → Option Value} {base : Heap} (E : Env K mg) : Gv P w K mg base (1 + 1) "_law_left" [] (spU K mg u_qleft) := by
  obtain ⟨f, fd, F, hmg⟩ := E.d_qleft
  exact Gv.of F hmg (fo_qleft E F) (F.bindsN fun _ _ _ _ _ _ us hl => match us, hl with | [_], _ => rfl) .nil
def b_qanswers : DS := (bSeq (bSetX 2 (xC (nL (dLst dA0)))) (bSeq (bFor [3] (gN 3) (iRange1 (dVar 1)) (bSeq (bExpr (dLm 2 qAppend (dAc (dFrz (dIxB (dOfN (dLst (dAc (dC (.str "bad")) (dAc (dC (.str "good")) dA0)))) (dI kMod (dI kDiv (dVar 0) (dIxB (dOfN (dLst (dAc (dC (.int 4)) (dAc (dC (.int 2)) (dAc (dC (.int 1)) dA0))))) (dI kSub (dAdd (dVar 3) (dC (.int 3))) (dVar 1)))) (dC (.int 2))))) dA0))) bNil)) (bSeq (bRet (dB kTuple (dAc (dVar 2) dA0))) bNil)))
def u_qanswers : List Ar → R (Rs × List Sl) := runB 4 2 b_qanswers
theorem sc_qanswers : FnScope ["_law_number", "_law_many", "_law_found", "_law_k"] ["_law_number", "_law_many"] (defScope (top 6)) := ⟨rfl, rfl, rfl, by decide +kernel, rfl, by decide +kernel, by decide +kernel⟩
theorem fo_qanswers {P : Program} {w : World} {K : PySem.W.Frag} {mg : Str → Option Value} {base : Heap} (E : Env K mg) {f : Addr} {fd : FuncData} (F : FunD K "_law_answers" "_law_answers" (defArgs (top 6)) (defBody (top 6)) (defScope (top 6)) [] [] f fd) : FnOk P w K mg base (L2.CX P w) (0 + 1) f fd ["_law_number", "_law_many"] (spU K mg u_qanswers) := by
  refine fn_u (N := ["_law_number", "_law_many", "_law_found", "_law_k"]) (ps := ["_law_number", "_law_many"]) (k := 0) F sc_qanswers (b := b_qanswers) (by decide) fun X W h => ?_
  have C := h.cf
  have hb_range : X.mg "range" = none := by rw [h.mg]; exact E.b_range
  have hb_tuple : X.mg "tuple" = none := by rw [h.mg]; exact E.b_tuple
  have n0 : (["_law_number", "_law_many", "_law_found", "_law_k"] : List Str)[0]? = some ("_law_number" : Str) := rfl
  have v0 : visB (defScope (top 6)) "_law_number" = true := by decide +kernel
  have s0 : Sto X (defScope (top 6)) "_law_number" := sto_c h.fn (by decide +kernel)
  have n1 : (["_law_number", "_law_many", "_law_found", "_law_k"] : List Str)[1]? = some ("_law_many" : Str) := rfl
  have v1 : visB (defScope (top 6)) "_law_many" = true := by decide +kernel
  have s1 : Sto X (defScope (top 6)) "_law_many" := sto_c h.fn (by decide +kernel)
  have n2 : (["_law_number", "_law_many", "_law_found", "_law_k"] : List Str)[2]? = some ("_law_found" : Str) := rfl
  have v2 : visB (defScope (top 6)) "_law_found" = true := by decide +kernel
  have s2 : Sto X (defScope (top 6)) "_law_found" := sto_c h.fn (by decide +kernel)
  have n3 : (["_law_number", "_law_many", "_law_found", "_law_k"] : List Str)[3]? = some ("_law_k" : Str) := rfl
  have v3 : visB (defScope (top 6)) "_law_k" = true := by decide +kernel
  have s3 : Sto X (defScope (top 6)) "_law_k" := sto_c h.fn (by decide +kernel)
  unfold b_qanswers
  exact (cs_cons (c1_setX C.toCf0 2 n2 s2 (cx_c (cc_l (cn_lst ca_nil)))) (cs_cons (c1_for C [3] (ci_range1 C.toCf0 (by decide +kernel) hb_range (ce_var C.toCf0 1 n1 (by decide +kernel))) (cg_name C.toCf0 3 n3 s3) (cs_cons (c1_expr (ce_append C.toCf0 2 n2 (by decide +kernel) (ce_ixB C.toCf0 (ce_ofN (cn_lst (ca_cons ce_str (ca_cons ce_str ca_nil)))) (ce_mod (ce_fdiv (ce_var C.toCf0 0 n0 (by decide +kernel)) (ce_ixB C.toCf0 (ce_ofN (cn_lst (ca_cons ce_int (ca_cons ce_int (ca_cons ce_int ca_nil))))) (ce_sub (ce_add (ce_var C.toCf0 3 n3 (by decide +kernel)) ce_int) (ce_var C.toCf0 1 n1 (by decide +kernel))))) ce_int)))) cs_nil)) (cs_cons (c1_ret (ce_tuple C.toCf0 (by decide +kernel) hb_tuple (ca_cons (ce_var C.toCf0 2 n2 (by decide +kernel)) ca_nil))) cs_nil)))
theorem ok_qanswers {P : Program} {w : World} {K : PySem.W.Frag} {mg : Str → Option Value} {base : Heap} (E : Env K mg) : Gv P w K mg base (0 + 1) "_law_answers" [] (spU K mg u_qanswers) := by
  obtain ⟨f, fd, F, hmg⟩ := E.d_qanswers
  exact Gv.of F hmg (fo_qanswers E F) (F.bindsN fun _ _ _ _ _ _ us hl => match us, hl with | [_, _], _ => rfl) .nil
def b_qgrown_k72 : DS := (bSeq (bSet 1 (dCmp kEq (eX (xCallC u_qtake_k34 0 [] (dAc (dVar 0) (dAc (dC (.int 8)) dA0)))) (dC (.int 5)))) (bSeq (bSet 2 (eX (xCallC u_qtake_k34 0 [] (dAc (dVar 0) (dAc (dC (.int 13)) dA0))))) (bSeq (bIf (dTst (dVar 1)) (bSeq (bSet 2 (dC (.int 30))) bNil) bNil) (bSeq (bSetX 3 (xCallC u_qleft 0 [] (dAc (dVar 0) dA0))) (bPool 16 (bSeq (bSetR 4 16 (rNew 16 (dAc (dVarX 3 16) dA0))) (bSeq (bFor [5, 6, 7, 8, 9, 10, 11, 12, 13] (gN 5) (iRange1 (dVar 2)) (bSeq (bSet 6 (eX (xCallC u_qtake_k34 0 [] (dAc (dVar 0) (dAc (dB (kLenR 4 16) (dAc (dVarX 4 16) dA0)) dA0))))) (bSeq (bIf (dTst (dVar 1)) (bSeq (bSet 6 (dI kSub (dI kSub (dB (kLenR 4 16) (dAc (dVarX 4 16) dA0)) (dC (.int 1))) (dI kMod (dVar 6) (dC (.int 2))))) bNil) bNil) (bSeq (bSetR 7 16 (rPopR 4 16 (dVar 6))) (bSeq (bSet 8 (dAdd (dC (.int 1)) (eX (xCallC u_qtake_k34 0 [] (dAc (dVar 0) (dAc (dC (.int 3)) dA0)))))) (bSeq (bSet 9 (eX (xCallC u_qtake_k34 0 [] (dAc (dVar 0) (dAc (dC (.int 12)) dA0))))) (bSeq (bSet 10 (dAdd (dAdd (dVar 9) (dC (.int 1))) (eX (xCallC u_qtake_k34 0 [] (dAc (dVar 0) (dAc (dC (.int 12)) dA0)))))) (bSeq (bSet 11 (dFrz (eX (xCut (dTup (dAc (dFrz (dVar 9)) (dAc (dFrz (dVar 10)) (dAc (dAdd (dAdd (dVar 10) (dC (.int 1))) (eX (xCallC u_qtake_k34 0 [] (dAc (dVar 0) (dAc (dC (.int 12)) dA0))))) dA0)))) oNone (oSome (dVar 8)))))) (bSeq (bSet 12 (dFrz (eX (xCut (dOfN (nComp [14] (gN 14) (iRange1 (dIxB (dOfN (dLst (dAc (dC (.int 2)) (dAc (dC (.int 4)) (dAc (dC (.int 8)) dA0))))) (dI kSub (dVar 8) (dC (.int 1))))) (dTst (dCmp kEq (eX (xCallC u_qtake_k34 0 [] (dAc (dVar 0) (dAc (dC (.int 2)) dA0)))) (dC (.int 0)))) (dFrz (dVar 14)))) oNone (oSome (dC (.int 4))))))) (bSeq (bIf (dTst (dCmp (kI fun i j => decide (i < j)) (dB kLen (dAc (dVar 12) dA0)) (dC (.int 2)))) (bSeq (bSet 12 (dOfN (dLst (dAc (dC (.int 0)) (dAc (dC (.int 1)) dA0))))) bNil) bNil) (bSeq (bSetC 13 (cCompP [14] (gN 14) (iSeq (dVar 12)) (nPair (eX (xCall u_qanswers [] (dAc (dVar 14) (dAc (dVar 8) dA0)))) (nX (xCallC u_qleft 0 [] (dAc (dVar 0) dA0)))))) (bSeq (bExpr (dClrR 7 16)) (bAdP 13 16 (bSeq (bExpr (dExtR 7 16 (dAc (dC (.str "round")) (dAc (dVar 11) (dAc (dVarX 13 16) dA0))))) (bSeq (bExpr (dExtC 4 16 13 15 1)) bNil))))))))))))))) (bSeq (bRet (dFrzP 3 16)) bNil))))))))
def u_qgrown_k72 : List Ar → R (Rs × List Sl) := runB 17 1 b_qgrown_k72
theorem sc_qgrown : FnScope ["_law_pen_here", "_law_deep", "_law_many", "_law_top", "_law_leaves", "_law_k", "_law_at", "_law_here", "_law_size", "_law_first", "_law_second", "_law_tried", "_law_numbers", "_law_rows", "_law_number", "_law_row", "~"] ["_law_pen_here"] (defScope (top 7)) := ⟨rfl, rfl, rfl, by decide +kernel, rfl, by decide +kernel, by decide +kernel⟩
theorem fo_qgrown {P : Program} {w : World} {K : PySem.W.Frag} {mg : Str → Option Value} {base : Heap} (E : Env K mg) {f : Addr} {fd : FuncData} (F : FunD K "_law_grown" "_law_grown" (defArgs (top 7)) (defBody (top 7)) (defScope (top 7)) [] [] f fd) : FnOk P w K mg base (L2.CX P w) (2 + 1) f fd ["_law_pen_here"] (spU K mg u_qgrown_k72) := by
  refine fn_u (N := ["_law_pen_here", "_law_deep", "_law_many", "_law_top", "_law_leaves", "_law_k", "_law_at", "_law_here", "_law_size", "_law_first", "_law_second", "_law_tried", "_law_numbers", "_law_rows", "_law_number", "_law_row", "~"]) (ps := ["_law_pen_here"]) (k := 2) F sc_qgrown (b := b_qgrown_k72) (by decide) fun X W h => ?_
  have C := h.cf
  have hb_range : X.mg "range" = none := by rw [h.mg]; exact E.b_range
  have hb_len : X.mg "len" = none := by rw [h.mg]; exact E.b_len
  have c_qtake := (ok_qtake (P := P) (w := w) (base := base) E).u h (by omega)
  have c_qleft := (ok_qleft (P := P) (w := w) (base := base) E).u h (by omega)
  have c_qanswers := (ok_qanswers (P := P) (w := w) (base := base) E).u h (by omega)
  have n0 : (["_law_pen_here", "_law_deep", "_law_many", "_law_top", "_law_leaves", "_law_k", "_law_at", "_law_here", "_law_size", "_law_first", "_law_second", "_law_tried", "_law_numbers", "_law_rows", "_law_number", "_law_row", "~"] : List Str)[0]? = some ("_law_pen_here" : Str) := rfl
  have v0 : visB (defScope (top 7)) "_law_pen_here" = true := by decide +kernel
  have s0 : Sto X (defScope (top 7)) "_law_pen_here" := sto_c h.fn (by decide +kernel)
  have n1 : (["_law_pen_here", "_law_deep", "_law_many", "_law_top", "_law_leaves", "_law_k", "_law_at", "_law_here", "_law_size", "_law_first", "_law_second", "_law_tried", "_law_numbers", "_law_rows", "_law_number", "_law_row", "~"] : List Str)[1]? = some ("_law_deep" : Str) := rfl
  have v1 : visB (defScope (top 7)) "_law_deep" = true := by decide +kernel
  have s1 : Sto X (defScope (top 7)) "_law_deep" := sto_c h.fn (by decide +kernel)
  have n2 : (["_law_pen_here", "_law_deep", "_law_many", "_law_top", "_law_leaves", "_law_k", "_law_at", "_law_here", "_law_size", "_law_first", "_law_second", "_law_tried", "_law_numbers", "_law_rows", "_law_number", "_law_row", "~"] : List Str)[2]? = some ("_law_many" : Str) := rfl
  have v2 : visB (defScope (top 7)) "_law_many" = true := by decide +kernel
  have s2 : Sto X (defScope (top 7)) "_law_many" := sto_c h.fn (by decide +kernel)
  have n3 : (["_law_pen_here", "_law_deep", "_law_many", "_law_top", "_law_leaves", "_law_k", "_law_at", "_law_here", "_law_size", "_law_first", "_law_second", "_law_tried", "_law_numbers", "_law_rows", "_law_number", "_law_row", "~"] : List Str)[3]? = some ("_law_top" : Str) := rfl
  have v3 : visB (defScope (top 7)) "_law_top" = true := by decide +kernel
  have s3 : Sto X (defScope (top 7)) "_law_top" := sto_c h.fn (by decide +kernel)
  have n4 : (["_law_pen_here", "_law_deep", "_law_many", "_law_top", "_law_leaves", "_law_k", "_law_at", "_law_here", "_law_size", "_law_first", "_law_second", "_law_tried", "_law_numbers", "_law_rows", "_law_number", "_law_row", "~"] : List Str)[4]? = some ("_law_leaves" : Str) := rfl
  have v4 : visB (defScope (top 7)) "_law_leaves" = true := by decide +kernel
  have s4 : Sto X (defScope (top 7)) "_law_leaves" := sto_c h.fn (by decide +kernel)
  have n5 : (["_law_pen_here", "_law_deep", "_law_many", "_law_top", "_law_leaves", "_law_k", "_law_at", "_law_here", "_law_size", "_law_first", "_law_second", "_law_tried", "_law_numbers", "_law_rows", "_law_number", "_law_row", "~"] : List Str)[5]? = some ("_law_k" : Str) := rfl
  have v5 : visB (defScope (top 7)) "_law_k" = true := by decide +kernel
  have s5 : Sto X (defScope (top 7)) "_law_k" := sto_c h.fn (by decide +kernel)
  have n6 : (["_law_pen_here", "_law_deep", "_law_many", "_law_top", "_law_leaves", "_law_k", "_law_at", "_law_here", "_law_size", "_law_first", "_law_second", "_law_tried", "_law_numbers", "_law_rows", "_law_number", "_law_row", "~"] : List Str)[6]? = some ("_law_at" : Str) := rfl
  have v6 : visB (defScope (top 7)) "_law_at" = true := by decide +kernel
  have s6 : Sto X (defScope (top 7)) "_law_at" := sto_c h.fn (by decide +kernel)
  have n7 : (["_law_pen_here", "_law_deep", "_law_many", "_law_top", "_law_leaves", "_law_k", "_law_at", "_law_here", "_law_size", "_law_first", "_law_second", "_law_tried", "_law_numbers", "_law_rows", "_law_number", "_law_row", "~"] : List Str)[7]? = some ("_law_here" : Str) := rfl
  have v7 : visB (defScope (top 7)) "_law_here" = true := by decide +kernel
  have s7 : Sto X (defScope (top 7)) "_law_here" := sto_c h.fn (by decide +kernel)
  have n8 : (["_law_pen_here", "_law_deep", "_law_many", "_law_top", "_law_leaves", "_law_k", "_law_at", "_law_here", "_law_size", "_law_first", "_law_second", "_law_tried", "_law_numbers", "_law_rows", "_law_number", "_law_row", "~"] : List Str)[8]? = some ("_law_size" : Str) := rfl
  have v8 : visB (defScope (top 7)) "_law_size" = true := by decide +kernel
  have s8 : Sto X (defScope (top 7)) "_law_size" := sto_c h.fn (by decide +kernel)
  have n9 : (["_law_pen_here", "_law_deep", "_law_many", "_law_top", "_law_leaves", "_law_k", "_law_at", "_law_here", "_law_size", "_law_first", "_law_second", "_law_tried", "_law_numbers", "_law_rows", "_law_number", "_law_row", "~"] : List Str)[9]? = some ("_law_first" : Str) := rfl
  have v9 : visB (defScope (top 7)) "_law_first" = true := by decide +kernel
  have s9 : Sto X (defScope (top 7)) "_law_first" := sto_c h.fn (by decide +kernel)
  have n10 : (["_law_pen_here", "_law_deep", "_law_many", "_law_top", "_law_leaves", "_law_k", "_law_at", "_law_here", "_law_size", "_law_first", "_law_second", "_law_tried", "_law_numbers", "_law_rows", "_law_number", "_law_row", "~"] : List Str)[10]? = some ("_law_second" : Str) := rfl
  have v10 : visB (defScope (top 7)) "_law_second" = true := by decide +kernel
  have s10 : Sto X (defScope (top 7)) "_law_second" := sto_c h.fn (by decide +kernel)
  have n11 : (["_law_pen_here", "_law_deep", "_law_many", "_law_top", "_law_leaves", "_law_k", "_law_at", "_law_here", "_law_size", "_law_first", "_law_second", "_law_tried", "_law_numbers", "_law_rows", "_law_number", "_law_row", "~"] : List Str)[11]? = some ("_law_tried" : Str) := rfl
  have v11 : visB (defScope (top 7)) "_law_tried" = true := by decide +kernel
  have s11 : Sto X (defScope (top 7)) "_law_tried" := sto_c h.fn (by decide +kernel)
  have n12 : (["_law_pen_here", "_law_deep", "_law_many", "_law_top", "_law_leaves", "_law_k", "_law_at", "_law_here", "_law_size", "_law_first", "_law_second", "_law_tried", "_law_numbers", "_law_rows", "_law_number", "_law_row", "~"] : List Str)[12]? = some ("_law_numbers" : Str) := rfl
  have v12 : visB (defScope (top 7)) "_law_numbers" = true := by decide +kernel
  have s12 : Sto X (defScope (top 7)) "_law_numbers" := sto_c h.fn (by decide +kernel)
  have n13 : (["_law_pen_here", "_law_deep", "_law_many", "_law_top", "_law_leaves", "_law_k", "_law_at", "_law_here", "_law_size", "_law_first", "_law_second", "_law_tried", "_law_numbers", "_law_rows", "_law_number", "_law_row", "~"] : List Str)[13]? = some ("_law_rows" : Str) := rfl
  have v13 : visB (defScope (top 7)) "_law_rows" = true := by decide +kernel
  have s13 : Sto X (defScope (top 7)) "_law_rows" := sto_c h.fn (by decide +kernel)
  have n14 : (["_law_pen_here", "_law_deep", "_law_many", "_law_top", "_law_leaves", "_law_k", "_law_at", "_law_here", "_law_size", "_law_first", "_law_second", "_law_tried", "_law_numbers", "_law_rows", "_law_number", "_law_row", "~"] : List Str)[14]? = some ("_law_number" : Str) := rfl
  have n15 : (["_law_pen_here", "_law_deep", "_law_many", "_law_top", "_law_leaves", "_law_k", "_law_at", "_law_here", "_law_size", "_law_first", "_law_second", "_law_tried", "_law_numbers", "_law_rows", "_law_number", "_law_row", "~"] : List Str)[15]? = some ("_law_row" : Str) := rfl
  have n16 : (["_law_pen_here", "_law_deep", "_law_many", "_law_top", "_law_leaves", "_law_k", "_law_at", "_law_here", "_law_size", "_law_first", "_law_second", "_law_tried", "_law_numbers", "_law_rows", "_law_number", "_law_row", "~"] : List Str)[16]? = some ("~" : Str) := rfl
  unfold b_qgrown_k72
  exact (cs_cons (c1_set C.toCf0 1 n1 s1 (ce_eq C.toCf0 (ce_x (cx_callC C.toCf0 0 c_qtake (by decide +kernel) (fun _ _ => .nil) (ca_cons (ce_var C.toCf0 0 n0 (by decide +kernel)) (ca_cons ce_int ca_nil)))) ce_int)) (cs_cons (c1_set C.toCf0 2 n2 s2 (ce_x (cx_callC C.toCf0 0 c_qtake (by decide +kernel) (fun _ _ => .nil) (ca_cons (ce_var C.toCf0 0 n0 (by decide +kernel)) (ca_cons ce_int ca_nil))))) (cs_cons (c1_if (ct_of (ce_var C.toCf0 1 n1 (by decide +kernel))) (cs_cons (c1_set C.toCf0 2 n2 s2 ce_int) cs_nil) cs_nil) (cs_cons (c1_setX C.toCf0 3 n3 s3 (cx_callC C.toCf0 0 c_qleft (by decide +kernel) (fun _ _ => .nil) (ca_cons (ce_var C.toCf0 0 n0 (by decide +kernel)) ca_nil))) (cs_pool 16 (cs_cons (c1_setR C.toCf0 4 16 n4 s4 (cr_new 16 (ca_cons (ce_varX C.toCf0 3 16 n3 (by decide +kernel)) ca_nil))) (cs_cons (c1_for C [5, 6, 7, 8, 9, 10, 11, 12, 13] (ci_range1 C.toCf0 (by decide +kernel) hb_range (ce_var C.toCf0 2 n2 (by decide +kernel))) (cg_name C.toCf0 5 n5 s5) (cs_cons (c1_set C.toCf0 6 n6 s6 (ce_x (cx_callC C.toCf0 0 c_qtake (by decide +kernel) (fun _ _ => .nil) (ca_cons (ce_var C.toCf0 0 n0 (by decide +kernel)) (ca_cons (ce_lenR C.toCf0 4 16 (by decide +kernel) hb_len (ca_cons (ce_varX C.toCf0 4 16 n4 (by decide +kernel)) ca_nil)) ca_nil))))) (cs_cons (c1_if (ct_of (ce_var C.toCf0 1 n1 (by decide +kernel))) (cs_cons (c1_set C.toCf0 6 n6 s6 (ce_sub (ce_sub (ce_lenR C.toCf0 4 16 (by decide +kernel) hb_len (ca_cons (ce_varX C.toCf0 4 16 n4 (by decide +kernel)) ca_nil)) ce_int) (ce_mod (ce_var C.toCf0 6 n6 (by decide +kernel)) ce_int))) cs_nil) cs_nil) (cs_cons (c1_setR C.toCf0 7 16 n7 s7 (cr_popR C.toCf0 4 16 n4 (by decide +kernel) (ce_var C.toCf0 6 n6 (by decide +kernel)))) (cs_cons (c1_set C.toCf0 8 n8 s8 (ce_add ce_int (ce_x (cx_callC C.toCf0 0 c_qtake (by decide +kernel) (fun _ _ => .nil) (ca_cons (ce_var C.toCf0 0 n0 (by decide +kernel)) (ca_cons ce_int ca_nil)))))) (cs_cons (c1_set C.toCf0 9 n9 s9 (ce_x (cx_callC C.toCf0 0 c_qtake (by decide +kernel) (fun _ _ => .nil) (ca_cons (ce_var C.toCf0 0 n0 (by decide +kernel)) (ca_cons ce_int ca_nil))))) (cs_cons (c1_set C.toCf0 10 n10 s10 (ce_add (ce_add (ce_var C.toCf0 9 n9 (by decide +kernel)) ce_int) (ce_x (cx_callC C.toCf0 0 c_qtake (by decide +kernel) (fun _ _ => .nil) (ca_cons (ce_var C.toCf0 0 n0 (by decide +kernel)) (ca_cons ce_int ca_nil)))))) (cs_cons (c1_set C.toCf0 11 n11 s11 (ce_frz (ce_x (cx_cut (ce_tup (ca_cons (ce_frz (ce_var C.toCf0 9 n9 (by decide +kernel))) (ca_cons (ce_frz (ce_var C.toCf0 10 n10 (by decide +kernel))) (ca_cons (ce_add (ce_add (ce_var C.toCf0 10 n10 (by decide +kernel)) ce_int) (ce_x (cx_callC C.toCf0 0 c_qtake (by decide +kernel) (fun _ _ => .nil) (ca_cons (ce_var C.toCf0 0 n0 (by decide +kernel)) (ca_cons ce_int ca_nil))))) ca_nil)))) co_none (co_some (ce_var C.toCf0 8 n8 (by decide +kernel))))))) (cs_cons (c1_set C.toCf0 12 n12 s12 (ce_frz (ce_x (cx_cut (ce_ofN (cn_comp C (CompU.mk (own := [("_law_number", 14)]) (ci_range1 C.toCf0 (by decide +kernel) hb_range (ce_ixB C.toCf0 (ce_ofN (cn_lst (ca_cons ce_int (ca_cons ce_int (ca_cons ce_int ca_nil))))) (ce_sub (ce_var C.toCf0 8 n8 (by decide +kernel)) ce_int))) (by decide +kernel) (fun _ _ _ _ _ => (cg_name (Cf.blk C).toCf0 14 n14 (sto_l (by decide +kernel)))) (fun _ _ _ _ _ => (cts_one (ct_cmp (ce_eq (Cf.blk C).toCf0 (ce_x (cx_callC (Cf.blk C).toCf0 0 c_qtake.blk (by decide +kernel) (fun _ _ => .nil) (ca_cons (ce_var (Cf.blk C).toCf0 0 n0 (by decide +kernel)) (ca_cons ce_int ca_nil)))) ce_int)))) (fun _ _ _ _ _ => (ce_frz (ce_var (Cf.blk C).toCf0 14 n14 (by decide +kernel)))) (by decide) (fun _ => rfl)))) co_none (co_some ce_int))))) (cs_cons (c1_if (ct_cmp (ce_lt (ce_len C.toCf0 (by decide +kernel) hb_len (ca_cons (ce_var C.toCf0 12 n12 (by decide +kernel)) ca_nil)) ce_int)) (cs_cons (c1_set C.toCf0 12 n12 s12 (ce_ofN (cn_lst (ca_cons ce_int (ca_cons ce_int ca_nil))))) cs_nil) cs_nil) (cs_cons (c1_lcP C rfl 13 n13 (by decide +kernel) (CompP.mk (own := [("_law_number", 14)]) (ci_seq (ce_var C.toCf0 12 n12 (by decide +kernel))) (by decide +kernel) (fun _ _ _ _ _ => (cg_name (Cf.blk C).toCf0 14 n14 (sto_l (by decide +kernel)))) (fun _ _ _ _ _ => (cp_pair (ce_x (cx_call (Cf.blk C).toCf0 c_qanswers.blk (by decide +kernel) (fun _ _ => .nil) (ca_cons (ce_var (Cf.blk C).toCf0 14 n14 (by decide +kernel)) (ca_cons (ce_var (Cf.blk C).toCf0 8 n8 (by decide +kernel)) ca_nil)))) (cc_x (cx_callC (Cf.blk C).toCf0 0 c_qleft.blk (by decide +kernel) (fun _ _ => .nil) (ca_cons (ce_var (Cf.blk C).toCf0 0 n0 (by decide +kernel)) ca_nil))))) (by decide) (fun _ => rfl))) (cs_cons (c1_expr (ce_clrR C.toCf0 7 16 n7 (by decide +kernel))) (cs_adP 13 16 (cs_cons (c1_expr (ce_extR C.toCf0 7 16 n7 (by decide +kernel) (ca_cons ce_str (ca_cons (ce_var C.toCf0 11 n11 (by decide +kernel)) (ca_cons (ce_varX C.toCf0 13 16 n13 (by decide +kernel)) ca_nil))))) (cs_cons (c1_expr (ce_extC C 4 16 13 15 1 (own := [("_law_row", 15)]) n4 (by decide +kernel) n13 (by decide +kernel) (by decide +kernel) rfl (fun _ _ _ _ _ => (pg_nm (Cf.blk C).toCf0 15 n15 (sto_l (by decide +kernel)))) (fun _ _ _ _ _ => (pe_nmV (Cf.blk C).toCf0 15 n15 (by decide +kernel))))) cs_nil))))))))))))))) (cs_cons (c1_ret (ce_frzP C.toCf0 3 16 n3 (by decide +kernel))) cs_nil))))))))
theorem ok_qgrown {P : Program} {w : World} {K : PySem.W.Frag} {mg : Str → Option Value} {base : Heap} (E : Env K mg) : Gv P w K mg base (2 + 1) "_law_grown" [] (spU K mg u_qgrown_k72) := by
  obtain ⟨f, fd, F, hmg⟩ := E.d_qgrown
  exact Gv.of F hmg (fo_qgrown E F) (F.bindsN fun _ _ _ _ _ _ us hl => match us, hl with | [_], _ => rfl) .nil
def b_qplan_k72 : Nat → DS
  | 0 => bBad
  | n + 1 => (bSeq (bIf (dTst (dCmp kEq (dIxB (dVar 0) (dC (.int 0))) (dC (.str "left")))) (bSeq (bRet (dTup (dAc (dC (.str "left")) (dAc (dFrz (dIxB (dVar 0) (dC (.int 1)))) dA0)))) bNil) bNil) (bSeq (bRet (dTup (dAc (dC (.str "round")) (dAc (dFrz (dIxB (dVar 0) (dC (.int 1)))) (dAc (dB kTuple (dAc (dOfN (nComp [1, 2] (gT2L (gN 1) (gN 2)) (iSeq (dIxB (dVar 0) (dC (.int 2)))) tYes (dFrz (dTup (dAc (dFrz (dVar 1)) (dAc (eX (xCallM (runB 3 1 (b_qplan_k72 n)) [true] [] (dAc (dFrz (dVar 2)) dA0))) dA0)))))) dA0)) dA0))))) bNil))
def u_qplan_k72 (n : Nat) : List Ar → R (Rs × List Sl) := runB 3 1 (b_qplan_k72 n)
theorem sc_qplan : FnScope ["_law_here", "_law_answers_here", "_law_within"] ["_law_here"] (defScope (top 8)) := ⟨rfl, rfl, rfl, by decide +kernel, rfl, by decide +kernel, by decide +kernel⟩
theorem fo_qplan {P : Program} {w : World} {K : PySem.W.Frag} {mg : Str → Option Value} {base : Heap} (E : Env K mg) {f : Addr} {fd : FuncData} (F : FunD K "_law_plan" "_law_plan" (defArgs (top 8)) (defBody (top 8)) (defScope (top 8)) [] [] f fd) (hmg : mg "_law_plan" = some (.ref f)) : ∀ n : Nat, FnOk P w K mg base (L2.CX P w) (0 + n + 1) f fd ["_law_here"] (spU K mg (u_qplan_k72 n))
  | 0 => fn_u (N := ["_law_here", "_law_answers_here", "_law_within"]) (ps := ["_law_here"]) F sc_qplan (b := b_qplan_k72 0) (by decide) fun X W h => cs_bad
  | n + 1 => by
    have IH := fo_qplan (P := P) (w := w) (base := base) E F hmg n
    refine fn_u (N := ["_law_here", "_law_answers_here", "_law_within"]) (ps := ["_law_here"]) (k := 0 + n + 1) F sc_qplan (b := b_qplan_k72 (n + 1)) (by decide) fun X W h => ?_
    have C := h.cf
    have c_qplan := (Gv.of F hmg IH (F.bindsN fun _ _ _ _ _ _ us hl => match us, hl with | [_], _ => rfl) .nil).u h (Nat.le_refl _)
    have hb_tuple : X.mg "tuple" = none := by rw [h.mg]; exact E.b_tuple
    have n0 : (["_law_here", "_law_answers_here", "_law_within"] : List Str)[0]? = some ("_law_here" : Str) := rfl
    have v0 : visB (defScope (top 8)) "_law_here" = true := by decide +kernel
    have s0 : Sto X (defScope (top 8)) "_law_here" := sto_c h.fn (by decide +kernel)
    have n1 : (["_law_here", "_law_answers_here", "_law_within"] : List Str)[1]? = some ("_law_answers_here" : Str) := rfl
    have n2 : (["_law_here", "_law_answers_here", "_law_within"] : List Str)[2]? = some ("_law_within" : Str) := rfl
    show CS X W _ (b_qplan_k72 (n + 1))
    unfold b_qplan_k72
    exact (cs_cons (c1_if (ct_cmp (ce_eq C.toCf0 (ce_ixB C.toCf0 (ce_var C.toCf0 0 n0 (by decide +kernel)) ce_int) ce_str)) (cs_cons (c1_ret (ce_tup (ca_cons ce_str (ca_cons (ce_frz (ce_ixB C.toCf0 (ce_var C.toCf0 0 n0 (by decide +kernel)) ce_int)) ca_nil)))) cs_nil) cs_nil) (cs_cons (c1_ret (ce_tup (ca_cons ce_str (ca_cons (ce_frz (ce_ixB C.toCf0 (ce_var C.toCf0 0 n0 (by decide +kernel)) ce_int)) (ca_cons (ce_tuple C.toCf0 (by decide +kernel) hb_tuple (ca_cons (ce_ofN (cn_comp C (CompU.mk (own := [("_law_answers_here", 1), ("_law_within", 2)]) (ci_seq (ce_ixB C.toCf0 (ce_var C.toCf0 0 n0 (by decide +kernel)) ce_int)) (by decide +kernel) (fun _ _ _ _ _ => (cg_tup2L (Cf.blk C) (cg_name (Cf.blk C).toCf0 1 n1 (sto_l (by decide +kernel))) (cg_name (Cf.blk C).toCf0 2 n2 (sto_l (by decide +kernel))))) (fun _ _ _ _ _ => cts_nil) (fun _ _ _ _ _ => (ce_frz (ce_tup (ca_cons (ce_frz (ce_var (Cf.blk C).toCf0 1 n1 (by decide +kernel))) (ca_cons (ce_x (cx_callM (Cf.blk C).toCf0 [true] c_qplan.blk (by decide +kernel) (fun _ _ => .nil) (ca_cons (ce_frz (ce_var (Cf.blk C).toCf0 2 n2 (by decide +kernel))) ca_nil))) ca_nil))))) (by decide) (fun _ => rfl)))) ca_nil)) ca_nil))))) cs_nil))
theorem ok_qplan {P : Program} {w : World} {K : PySem.W.Frag} {mg : Str → Option Value} {base : Heap} (E : Env K mg) (n : Nat) : Gv P w K mg base (0 + n + 1) "_law_plan" [] (spU K mg (u_qplan_k72 n)) := by
  obtain ⟨f, fd, F, hmg⟩ := E.d_qplan
  exact Gv.of F hmg (fo_qplan E F hmg n) (F.bindsN fun _ _ _ _ _ _ us hl => match us, hl with | [_], _ => rfl) .nil
theorem sc_p_depth_of : FnScope ["plan", "answers", "within"] ["plan"] (defScope (top 1)) := ⟨rfl, rfl, rfl, by decide +kernel, rfl, by decide +kernel, by decide +kernel⟩
theorem fo_p_depth_of {P : Program} {w : World} {K : PySem.W.Frag} {mg : Str → Option Value} {base : Heap} (E : Env K mg) {f : Addr} {fd : FuncData} (F : FunD K "depth_of" "depth_of" (defArgs (top 1)) (defBody (top 1)) (defScope (top 1)) [] [] f fd) (hmg : mg "depth_of" = some (.ref f)) : ∀ n : Nat, FnOk P w K mg base (L2.CX P w) (0 + n + 1) f fd ["plan"] (spU K mg (u_p_depth_of n))
  | 0 => fn_u (N := ["plan", "answers", "within"]) (ps := ["plan"]) F sc_p_depth_of (b := b_p_depth_of 0) (by decide) fun X W h => cs_bad
  | n + 1 => by
    have IH := fo_p_depth_of (P := P) (w := w) (base := base) E F hmg n
    refine fn_u (N := ["plan", "answers", "within"]) (ps := ["plan"]) (k := 0 + n + 1) F sc_p_depth_of (b := b_p_depth_of (n + 1)) (by decide) fun X W h => ?_
    have C := h.cf
    have c_p_depth_of := (Gv.of F hmg IH (F.bindsN fun _ _ _ _ _ _ us hl => match us, hl with | [_], _ => rfl) .nil).u h (Nat.le_refl _)
    have hb_max : X.mg "max" = none := by rw [h.mg]; exact E.b_max
    have n0 : (["plan", "answers", "within"] : List Str)[0]? = some ("plan" : Str) := rfl
    have v0 : visB (defScope (top 1)) "plan" = true := by decide +kernel
    have s0 : Sto X (defScope (top 1)) "plan" := sto_c h.fn (by decide +kernel)
    have n1 : (["plan", "answers", "within"] : List Str)[1]? = some ("answers" : Str) := rfl
    have n2 : (["plan", "answers", "within"] : List Str)[2]? = some ("within" : Str) := rfl
    show CS X W _ (b_p_depth_of (n + 1))
    unfold b_p_depth_of
    exact (cs_cons (c1_if (ct_cmp (ce_eq C.toCf0 (ce_ixB C.toCf0 (ce_var C.toCf0 0 n0 (by decide +kernel)) ce_int) ce_str)) (cs_cons (c1_ret ce_int) cs_nil) cs_nil) (cs_cons (c1_ret (ce_add ce_int (ce_max1 C (by decide +kernel) hb_max (ca_cons (ce_ofN (cn_comp C (CompU.mk (own := [("answers", 1), ("within", 2)]) (ci_seq (ce_ixB C.toCf0 (ce_var C.toCf0 0 n0 (by decide +kernel)) ce_int)) (by decide +kernel) (fun _ _ _ _ _ => (cg_tup2 (Cf.blk C) (cg_name (Cf.blk C).toCf0 1 n1 (sto_l (by decide +kernel))) (cg_name (Cf.blk C).toCf0 2 n2 (sto_l (by decide +kernel))))) (fun _ _ _ _ _ => cts_nil) (fun _ _ _ _ _ => (ce_frz (ce_x (cx_call (Cf.blk C).toCf0 c_p_depth_of.blk (by decide +kernel) (fun _ _ => .nil) (ca_cons (ce_var (Cf.blk C).toCf0 2 n2 (by decide +kernel)) ca_nil))))) (by decide) (fun _ => rfl)))) ca_nil)))) cs_nil))
theorem ok_p_depth_of {P : Program} {w : World} {K : PySem.W.Frag} {mg : Str → Option Value} {base : Heap} (E : Env K mg) (n : Nat) : Gv P w K mg base (0 + n + 1) "depth_of" [] (spU K mg (u_p_depth_of n)) := by
  obtain ⟨f, fd, F, hmg⟩ := E.d_p_depth_of
  exact Gv.of F hmg (fo_p_depth_of E F hmg n) (F.bindsN fun _ _ _ _ _ _ us hl => match us, hl with | [_], _ => rfl) .nil
def b_qmost : DS := (bSeq (bSet 1 (dC (.int 0))) (bSeq (bSetX 2 (xC (nL (dLst (dAc (dTup (dAc (dFrz (dVar 0)) (dAc (dC (.int 0)) dA0))) dA0))))) (bSeq (bWhile [3, 4] (fun _ => 1000000) (dTst (dCmp kNeE (dVar 2) (dOfN (dLst dA0)))) (bSeq (bSetG (gT2 (gN 3) (gN 4)) (dLm 2 qPop dA0)) (bSeq (bSet 1 (dB kMax2 (dAc (dVar 1) (dAc (dVar 4) dA0)))) (bSeq (bIf (dTst (dCmp kEq (dIxB (dVar 3) (dC (.int 0))) (dC (.str "round")))) (bSeq (bExpr (dExt 2 (nComp [5] (gN 5) (iSeq (dIxB (dVar 3) (dC (.int 2)))) tYes (dFrz (dTup (dAc (dFrz (dIxB (dVar 5) (dC (.int 1)))) (dAc (dAdd (dVar 4) (dC (.int 1))) dA0))))))) bNil) bNil) bNil)))) (bSeq (bRet (dVar 1)) bNil))))
def u_qmost : List Ar → R (Rs × List Sl) := runB 6 1 b_qmost
theorem sc_qmost : FnScope ["_law_top", "_law_most_here", "_law_waiting", "_law_here", "_law_many", "_law_row"] ["_law_top"] (defScope (top 9)) := ⟨rfl, rfl, rfl, by decide +kernel, rfl, by decide +kernel, by decide +kernel⟩
theorem fo_qmost {P : Program} {w : World} {K : PySem.W.Frag} {mg : Str → Option Value} {base : Heap} (E : Env K mg) {f : Addr} {fd : FuncData} (F : FunD K "_law_most" "_law_most" (defArgs (top 9)) (defBody (top 9)) (defScope (top 9)) [] [] f fd) : FnOk P w K mg base (L2.CX P w) (0 + 1) f fd ["_law_top"] (spU K mg u_qmost) := by
  refine fn_u (N := ["_law_top", "_law_most_here", "_law_waiting", "_law_here", "_law_many", "_law_row"]) (ps := ["_law_top"]) (k := 0) F sc_qmost (b := b_qmost) (by decide) fun X W h => ?_
  have C := h.cf
  have hb_max : X.mg "max" = none := by rw [h.mg]; exact E.b_max
  have n0 : (["_law_top", "_law_most_here", "_law_waiting", "_law_here", "_law_many", "_law_row"] : List Str)[0]? = some ("_law_top" : Str) := rfl
  have v0 : visB (defScope (top 9)) "_law_top" = true := by decide +kernel
  have s0 : Sto X (defScope (top 9)) "_law_top" := sto_c h.fn (by decide +kernel)
  have n1 : (["_law_top", "_law_most_here", "_law_waiting", "_law_here", "_law_many", "_law_row"] : List Str)[1]? = some ("_law_most_here" : Str) := rfl
  have v1 : visB (defScope (top 9)) "_law_most_here" = true := by decide +kernel
  have s1 : Sto X (defScope (top 9)) "_law_most_here" := sto_c h.fn (by decide +kernel)
  have n2 : (["_law_top", "_law_most_here", "_law_waiting", "_law_here", "_law_many", "_law_row"] : List Str)[2]? = some ("_law_waiting" : Str) := rfl
  have v2 : visB (defScope (top 9)) "_law_waiting" = true := by decide +kernel
  have s2 : Sto X (defScope (top 9)) "_law_waiting" := sto_c h.fn (by decide +kernel)
  have n3 : (["_law_top", "_law_most_here", "_law_waiting", "_law_here", "_law_many", "_law_row"] : List Str)[3]? = some ("_law_here" : Str) := rfl
  have v3 : visB (defScope (top 9)) "_law_here" = true := by decide +kernel
  have s3 : Sto X (defScope (top 9)) "_law_here" := sto_c h.fn (by decide +kernel)
  have n4 : (["_law_top", "_law_most_here", "_law_waiting", "_law_here", "_law_many", "_law_row"] : List Str)[4]? = some ("_law_many" : Str) := rfl
  have v4 : visB (defScope (top 9)) "_law_many" = true := by decide +kernel
  have s4 : Sto X (defScope (top 9)) "_law_many" := sto_c h.fn (by decide +kernel)
  have n5 : (["_law_top", "_law_most_here", "_law_waiting", "_law_here", "_law_many", "_law_row"] : List Str)[5]? = some ("_law_row" : Str) := rfl
  unfold b_qmost
  exact (cs_cons (c1_set C.toCf0 1 n1 s1 ce_int) (cs_cons (c1_setX C.toCf0 2 n2 s2 (cx_c (cc_l (cn_lst (ca_cons (ce_tup (ca_cons (ce_frz (ce_var C.toCf0 0 n0 (by decide +kernel))) (ca_cons ce_int ca_nil))) ca_nil))))) (cs_cons (c1_while C.toCf0 [3, 4] (fun _ => 1000000) (ct_cmp (ce_neE C.toCf0 (ce_var C.toCf0 2 n2 (by decide +kernel)) (ce_ofN (cn_lst ca_nil)))) (cs_cons (c1_setG (cg_tup2 C (cg_name C.toCf0 3 n3 s3) (cg_name C.toCf0 4 n4 s4)) (ce_pop C.toCf0 2 n2 (by decide +kernel))) (cs_cons (c1_set C.toCf0 1 n1 s1 (ce_max2 C (by decide +kernel) hb_max (ca_cons (ce_var C.toCf0 1 n1 (by decide +kernel)) (ca_cons (ce_var C.toCf0 4 n4 (by decide +kernel)) ca_nil)))) (cs_cons (c1_if (ct_cmp (ce_eq C.toCf0 (ce_ixB C.toCf0 (ce_var C.toCf0 3 n3 (by decide +kernel)) ce_int) ce_str)) (cs_cons (c1_expr (ce_extend C.toCf0 2 n2 (by decide +kernel) (cn_comp C (CompU.mk (own := [("_law_row", 5)]) (ci_seq (ce_ixB C.toCf0 (ce_var C.toCf0 3 n3 (by decide +kernel)) ce_int)) (by decide +kernel) (fun _ _ _ _ _ => (cg_name (Cf.blk C).toCf0 5 n5 (sto_l (by decide +kernel)))) (fun _ _ _ _ _ => cts_nil) (fun _ _ _ _ _ => (ce_frz (ce_tup (ca_cons (ce_frz (ce_ixB (Cf.blk C).toCf0 (ce_var (Cf.blk C).toCf0 5 n5 (by decide +kernel)) ce_int)) (ca_cons (ce_add (ce_var (Cf.blk C).toCf0 4 n4 (by decide +kernel)) ce_int) ca_nil))))) (by decide) (fun _ => rfl))))) cs_nil) cs_nil) cs_nil)))) (cs_cons (c1_ret (ce_var C.toCf0 1 n1 (by decide +kernel))) cs_nil))))
theorem ok_qmost {P : Program} {w : World} {K : PySem.W.Frag} {mg : Str → Option Value} {base : Heap} (E : Env K mg) : Gv P w K mg base (0 + 1) "_law_most" [] (spU K mg u_qmost) := by
  obtain ⟨f, fd, F, hmg⟩ := E.d_qmost
  exact Gv.of F hmg (fo_qmost E F) (F.bindsN fun _ _ _ _ _ _ us hl => match us, hl with | [_], _ => rfl) .nil
def b_p_law : DS := (bSeq (bFor [1, 2, 3, 4, 5, 6] (gN 1) (iRange1 (dC (.int 5))) (bSeq (bSetX 2 (xCall u_qpen [] (dAc (dVar 0) (dAc (dVar 1) dA0)))) (bSeq (bSet 3 (eX (xCallC u_qgrown_k72 0 [] (dAc (dVar 2) dA0)))) (bSeq (bSet 4 (eX (xCallM (u_qplan_k72 64) [true] [] (dAc (dFrz (dVar 3)) dA0)))) (bSeq (bFor [5, 6] (gN 5) (iRange1 (dC (.int 2))) (bSeq (bSet 6 (eX (xCall (u_p_depth_of 64) [] (dAc (dVar 4) dA0)))) (bSeq (bIf (dTor (dTnot (dTst (dIsi [.int] (dVar 6)))) (dTor (dTst (dIsi [.bool] (dVar 6))) (dTst (dCmp kNe (dVar 6) (eX (xCallM u_qmost [true] [] (dAc (dFrz (dVar 3)) dA0))))))) (bSeq (bRet (dC (.bool false))) bNil) bNil) bNil))) bNil))))) (bSeq (bRet (dC (.bool true))) bNil))
def u_p_law : List Ar → R (Rs × List Sl) := runB 7 1 b_p_law
theorem sc_p_law : FnScope ["_law_script", "_law_k", "_law_pen_here", "_law_top", "_law_plan_here", "_law_turn", "_law_found"] ["_law_script"] (defScope (top 10)) := ⟨rfl, rfl, rfl, by decide +kernel, rfl, by decide +kernel, by decide +kernel⟩
theorem fo_p_law {P : Program} {w : World} {K : PySem.W.Frag} {mg : Str → Option Value} {base : Heap} (E : Env K mg) {f : Addr} {fd : FuncData} (F : FunD K "law" "law" (defArgs (top 10)) (defBody (top 10)) (defScope (top 10)) [] [] f fd) : FnOk P w K mg base (L2.CX P w) (65 + 1) f fd ["_law_script"] (spU K mg u_p_law) := by
  refine fn_u (N := ["_law_script", "_law_k", "_law_pen_here", "_law_top", "_law_plan_here", "_law_turn", "_law_found"]) (ps := ["_law_script"]) (k := 65) F sc_p_law (b := b_p_law) (by decide) fun X W h => ?_
  have C := h.cf
  have hb_range : X.mg "range" = none := by rw [h.mg]; exact E.b_range
  have hb_isinstance : X.mg "isinstance" = none := by rw [h.mg]; exact E.b_isinstance
  have hb_int : X.mg "int" = none := by rw [h.mg]; exact E.b_int
  have hb_bool : X.mg "bool" = none := by rw [h.mg]; exact E.b_bool
  have c_qpen := (ok_qpen (P := P) (w := w) (base := base) E).u h (by omega)
  have c_qgrown := (ok_qgrown (P := P) (w := w) (base := base) E).u h (by omega)
  have c_qplan := (ok_qplan (P := P) (w := w) (base := base) E 64).u h (by omega)
  have c_p_depth_of := (ok_p_depth_of (P := P) (w := w) (base := base) E 64).u h (by omega)
  have c_qmost := (ok_qmost (P := P) (w := w) (base := base) E).u h (by omega)
  have n0 : (["_law_script", "_law_k", "_law_pen_here", "_law_top", "_law_plan_here", "_law_turn", "_law_found"] : List Str)[0]? = some ("_law_script" : Str) := rfl
  have v0 : visB (defScope (top 10)) "_law_script" = true := by decide +kernel
  have s0 : Sto X (defScope (top 10)) "_law_script" := sto_c h.fn (by decide +kernel)
  have n1 : (["_law_script", "_law_k", "_law_pen_here", "_law_top", "_law_plan_here", "_law_turn", "_law_found"] : List Str)[1]? = some ("_law_k" : Str) := rfl
  have v1 : visB (defScope (top 10)) "_law_k" = true := by decide +kernel
  have s1 : Sto X (defScope (top 10)) "_law_k" := sto_c h.fn (by decide +kernel)
  have n2 : (["_law_script", "_law_k", "_law_pen_here", "_law_top", "_law_plan_here", "_law_turn", "_law_found"] : List Str)[2]? = some ("_law_pen_here" : Str) := rfl
  have v2 : visB (defScope (top 10)) "_law_pen_here" = true := by decide +kernel
  have s2 : Sto X (defScope (top 10)) "_law_pen_here" := sto_c h.fn (by decide +kernel)
  have n3 : (["_law_script", "_law_k", "_law_pen_here", "_law_top", "_law_plan_here", "_law_turn", "_law_found"] : List Str)[3]? = some ("_law_top" : Str) := rfl
  have v3 : visB (defScope (top 10)) "_law_top" = true := by decide +kernel
  have s3 : Sto X (defScope (top 10)) "_law_top" := sto_c h.fn (by decide +kernel)
  have n4 : (["_law_script", "_law_k", "_law_pen_here", "_law_top", "_law_plan_here", "_law_turn", "_law_found"] : List Str)[4]? = some ("_law_plan_here" : Str) := rfl
  have v4 : visB (defScope (top 10)) "_law_plan_here" = true := by decide +kernel
  have s4 : Sto X (defScope (top 10)) "_law_plan_here" := sto_c h.fn (by decide +kernel)
  have n5 : (["_law_script", "_law_k", "_law_pen_here", "_law_top", "_law_plan_here", "_law_turn", "_law_found"] : List Str)[5]? = some ("_law_turn" : Str) := rfl
  have v5 : visB (defScope (top 10)) "_law_turn" = true := by decide +kernel
  have s5 : Sto X (defScope (top 10)) "_law_turn" := sto_c h.fn (by decide +kernel)
  have n6 : (["_law_script", "_law_k", "_law_pen_here", "_law_top", "_law_plan_here", "_law_turn", "_law_found"] : List Str)[6]? = some ("_law_found" : Str) := rfl
  have v6 : visB (defScope (top 10)) "_law_found" = true := by decide +kernel
  have s6 : Sto X (defScope (top 10)) "_law_found" := sto_c h.fn (by decide +kernel)
  unfold b_p_law
  exact (cs_cons (c1_for C [1, 2, 3, 4, 5, 6] (ci_range1 C.toCf0 (by decide +kernel) hb_range ce_int) (cg_name C.toCf0 1 n1 s1) (cs_cons (c1_setX C.toCf0 2 n2 s2 (cx_call C.toCf0 c_qpen (by decide +kernel) (fun _ _ => .nil) (ca_cons (ce_var C.toCf0 0 n0 (by decide +kernel)) (ca_cons (ce_var C.toCf0 1 n1 (by decide +kernel)) ca_nil)))) (cs_cons (c1_set C.toCf0 3 n3 s3 (ce_x (cx_callC C.toCf0 0 c_qgrown (by decide +kernel) (fun _ _ => .nil) (ca_cons (ce_var C.toCf0 2 n2 (by decide +kernel)) ca_nil)))) (cs_cons (c1_set C.toCf0 4 n4 s4 (ce_x (cx_callM C.toCf0 [true] c_qplan (by decide +kernel) (fun _ _ => .nil) (ca_cons (ce_frz (ce_var C.toCf0 3 n3 (by decide +kernel))) ca_nil)))) (cs_cons (c1_for C [5, 6] (ci_range1 C.toCf0 (by decide +kernel) hb_range ce_int) (cg_name C.toCf0 5 n5 s5) (cs_cons (c1_set C.toCf0 6 n6 s6 (ce_x (cx_call C.toCf0 c_p_depth_of (by decide +kernel) (fun _ _ => .nil) (ca_cons (ce_var C.toCf0 4 n4 (by decide +kernel)) ca_nil)))) (cs_cons (c1_if (ct_w (cw_or (ct_not (ct_of (ce_isi C.toCf0 .int (by decide +kernel) hb_isinstance (by decide +kernel) hb_int rfl (ce_var C.toCf0 6 n6 (by decide +kernel))))) (cw_or (ct_of (ce_isi C.toCf0 .bool (by decide +kernel) hb_isinstance (by decide +kernel) hb_bool rfl (ce_var C.toCf0 6 n6 (by decide +kernel)))) (cw_or1 (ct_cmp (ce_ne C.toCf0 (ce_var C.toCf0 6 n6 (by decide +kernel)) (ce_x (cx_callM C.toCf0 [true] c_qmost (by decide +kernel) (fun _ _ => .nil) (ca_cons (ce_frz (ce_var C.toCf0 3 n3 (by decide +kernel))) ca_nil))))))))) (cs_cons (c1_ret ce_bool) cs_nil) cs_nil) cs_nil))) cs_nil))))) (cs_cons (c1_ret ce_bool) cs_nil))
end PDW
set_option linter.all false
set_option maxRecDepth 100000
set_option maxHeartbeats 0
set_option autoImplicit false
namespace PD
open PySem L2
theorem w_norm {b : DS} {Γ Γ' : List Sl} {P : Fw → List Sl → Prop} (e : Γ = Γ') (h : W b Γ' P) : W b Γ P := e ▸ h
def plL : Pl → PyData
  | .lf ms => .list [.str "left", dT ms]
  | .tr m b g => .list [.str "try", .int m, plL b, plL g]
inductive PT where
  | lf (k : Nat) (ms : List Int)
  | tr (k : Nat) (m : Int) (b g : PT)
def PT.id : PT → Nat
  | .lf k _ => k
  | .tr k _ _ _ => k
def PT.pl : PT → Pl
  | .lf _ ms => .lf ms
  | .tr _ m b g => .tr m b.pl g.pl
def PT.ids : PT → List Nat
  | .lf k _ => [k]
  | .tr k _ b g => k :: (b.ids ++ g.ids)
def PT.lv : PT → List Nat
  | .lf k _ => [k]
  | .tr _ _ b g => b.lv ++ g.lv
def lfI (ms : List Int) : List Itm := [.d (.str "left"), .d (dT ms)]
def trI (m : Int) (b g : Nat) : List Itm := [.d (.str "try"), .d (.int m), .r b, .r g]
def Rp (ns : List (List Itm)) : PT → Prop
  | .lf k ms => ns[k]? = some (lfI ms)
  | .tr k m b g => ns[k]? = some (trI m b.id g.id) ∧ Rp ns b ∧ Rp ns g
def PT.grow (k : Nat) (m : Int) (b : Nat) (mb : List Int) (g : Nat) (mg : List Int) : PT → PT
  | .lf j ms => if j = k then .tr k m (.lf b mb) (.lf g mg) else .lf j ms
  | .tr j n x y => .tr j n (x.grow k m b mb g mg) (y.grow k m b mb g mg)
section
variable {k b g : Nat} {m : Int} {mb mg ms : List Int} {ns ns' : List (List Itm)}
theorem grow_id : ∀ t : PT, (t.grow k m b mb g mg).id = t.id
  | .lf j ms => by
    unfold PT.grow
    split
    · rename_i h; rw [h]; rfl
    · rfl
  | .tr j n x y => rfl
theorem lv_ids : ∀ {t : PT} {j : Nat}, j ∈ t.lv → j ∈ t.ids
  | .lf k _, j, h => h
  | .tr k _ b g, j, h => by
    rcases List.mem_append.mp h with h | h
    · exact List.mem_cons_of_mem _ (List.mem_append_left _ (lv_ids h))
    · exact List.mem_cons_of_mem _ (List.mem_append_right _ (lv_ids h))
theorem lv_lf : ∀ {t : PT} {j : Nat}, Rp ns t → j ∈ t.lv → ∃ ms, ns[j]? = some (lfI ms)
  | .lf k ms, j, h, hj => by
    have : j = k := by simpa [PT.lv] using hj
    rw [this]; exact ⟨ms, h⟩
  | .tr k _ b g, j, h, hj => by
    rcases List.mem_append.mp hj with z | z
    · exact lv_lf h.2.1 z
    · exact lv_lf h.2.2 z
theorem lf_tr {ms : List Int} {m : Int} {b g : Nat} : lfI ms ≠ trI m b g := by
  intro h
  have := congrArg List.length h
  simp [lfI, trI] at this
theorem rp_grow (hk : ns[k]? = some (lfI ms)) (h1 : ns'[k]? = some (trI m b g)) (h2 : ns'[b]? = some (lfI mb)) (h3 : ns'[g]? = some (lfI mg)) : ∀ {t : PT}, (∀ j ∈ t.ids, j ≠ k → ns'[j]? = ns[j]?) → Rp ns t → Rp ns' (t.grow k m b mb g mg)
  | .lf j ms, e, h => by
    unfold PT.grow
    split
    · exact ⟨h1, h2, h3⟩
    · rename_i hj
      show ns'[j]? = _
      rw [e j (by simp [PT.ids]) hj]
      exact h
  | .tr j n x y, e, h => by
    obtain ⟨q1, q2, q3⟩ := h
    have hj : j ≠ k := fun z => by
      rw [z, hk] at q1
      exact lf_tr (Option.some.inj q1)
    refine ⟨?_, rp_grow hk h1 h2 h3 (fun i hi => e i (by simp [PT.ids, hi])) q2, rp_grow hk h1 h2 h3 (fun i hi => e i (by simp [PT.ids, hi])) q3⟩
    rw [grow_id, grow_id, e j (by simp [PT.ids]) hj]
    exact q1
theorem ids_grow : ∀ {t : PT} {j : Nat}, j ∈ (t.grow k m b mb g mg).ids → j ∈ t.ids ∨ j = b ∨ j = g
  | .lf i ms, j, h => by
    unfold PT.grow at h
    split at h
    · rename_i e
      simp [PT.ids] at h ⊢
      rcases h with h | h | h
      · exact .inl (h.trans e.symm)
      · exact .inr (.inl h)
      · exact .inr (.inr h)
    · exact .inl h
  | .tr i n x y, j, h => by
    have h : j ∈ i :: ((x.grow k m b mb g mg).ids ++ (y.grow k m b mb g mg).ids) := h
    rcases List.mem_cons.mp h with h | h
    · exact .inl (by simp [PT.ids, h])
    · rcases List.mem_append.mp h with h | h
      · exact (ids_grow h).imp (fun z => by simp [PT.ids, z]) id
      · exact (ids_grow h).imp (fun z => by simp [PT.ids, z]) id
theorem grow_out : ∀ {t : PT}, k ∉ t.lv → t.grow k m b mb g mg = t
  | .lf j ms, h => by
    unfold PT.grow
    rw [if_neg fun z => h (by simp [PT.lv, z])]
  | .tr j n x y, h => by
    have h : k ∉ x.lv ++ y.lv := h
    rw [List.mem_append, not_or] at h
    show PT.tr j n (x.grow k m b mb g mg) (y.grow k m b mb g mg) = _
    rw [grow_out h.1, grow_out h.2]
theorem lv_grow : ∀ {t : PT}, t.lv.Nodup → k ∈ t.lv → (t.grow k m b mb g mg).lv.Perm (b :: g :: t.lv.erase k)
  | .lf j ms, _, h => by
    have h : k = j := by simpa [PT.lv] using h
    subst h
    unfold PT.grow
    rw [if_pos rfl]
    simp [PT.lv]
  | .tr j n x y, hn, h => by
    have hn : (x.lv ++ y.lv).Nodup := hn
    have h : k ∈ x.lv ++ y.lv := h
    obtain ⟨n1, n2, n3⟩ := List.nodup_append.mp hn
    show ((x.grow k m b mb g mg).lv ++ (y.grow k m b mb g mg).lv).Perm (b :: g :: (x.lv ++ y.lv).erase k)
    by_cases hx : k ∈ x.lv
    · have hy : k ∉ y.lv := fun z => n3 k hx k z rfl
      rw [grow_out hy, List.erase_append_left _ hx]
      exact (lv_grow n1 hx).append_right y.lv
    · have hy : k ∈ y.lv := (List.mem_append.mp h).resolve_left hx
      rw [grow_out hx, List.erase_append_right _ hx]
      refine ((lv_grow n2 hy).append_left x.lv).trans ?_
      refine List.perm_middle.trans (List.Perm.cons _ ?_)
      exact List.perm_middle
theorem dpt_lv : ∀ t : PT, dpt t.pl + 1 ≤ t.lv.length
  | .lf _ _ => by simp [PT.pl, dpt, PT.lv]
  | .tr _ _ x y => by
    have h1 := dpt_lv x
    have h2 := dpt_lv y
    simp only [PT.pl, dpt, PT.lv, List.length_append]
    omega
theorem lvs_lv : ∀ t : PT, (lvs t.pl).length = t.lv.length
  | .lf _ _ => by simp [PT.pl, lvs, PT.lv]
  | .tr _ _ x y => by
    simp only [PT.pl, lvs, PT.lv, List.length_append, List.length_map, lvs_lv x, lvs_lv y]
theorem unr_rp : ∀ {F : Nat} {t : PT}, Rp ns t → dpt t.pl < F → unr ns F t.id = some (plL t.pl)
  | 0, t, _, h => by omega
  | F + 1, .lf k ms, h, _ => by
    have h : ns[k]? = some (lfI ms) := h
    show ((ns[k]?).bind fun nd => (unrL (unr ns F) nd).map PyData.list) = _
    rw [h]; rfl
  | F + 1, .tr k m x y, h, hd => by
    obtain ⟨q1, q2, q3⟩ := h
    have hd : 1 + max (dpt x.pl) (dpt y.pl) < F + 1 := hd
    show ((ns[k]?).bind fun nd => (unrL (unr ns F) nd).map PyData.list) = _
    rw [q1]
    have e1 := unr_rp (F := F) q2 (by omega)
    have e2 := unr_rp (F := F) q3 (by omega)
    show (unrL (unr ns F) (trI m x.id y.id)).map PyData.list = _
    simp [trI, unrL, e1, e2, PT.pl, plL]
end
def PlG (lim : Int) (Q : List Int → Prop) : Pl → Prop
  | .lf ms => Q ms
  | .tr m b g => (0 ≤ m ∧ m < lim) ∧ PlG lim Q b ∧ PlG lim Q g
theorem plG_grow {lim : Int} {Q : List Int → Prop} {k b g : Nat} {m : Int} {mb mg : List Int} (hm : 0 ≤ m ∧ m < lim) (hb : Q mb) (hg : Q mg) : ∀ {t : PT}, PlG lim Q t.pl → PlG lim Q (t.grow k m b mb g mg).pl
  | .lf j ms, h => by
    unfold PT.grow
    split
    · exact ⟨hm, hb, hg⟩
    · exact h
  | .tr j n x y, h => ⟨h.1, plG_grow hm hb hg h.2.1, plG_grow hm hb hg h.2.2⟩
section
variable {Γ Γ1 Γ2 : List Sl} {i j k x : Nat} {ns : List (List Itm)} {nd : List Itm} {f : DF} {r : DS} {P : Fw → List Sl → Prop}
theorem nodeA_of (h1 : Γ[i]? = some (.ref j k)) (h2 : Γ[j]? = some (.pool ns)) (h3 : ns[k]? = some nd) : nodeA Γ i j = some (k, ns, nd) := by
  unfold nodeA refA poolA
  simp only [h1, h2, if_true]
  show ((ns[k]?).map fun nd => (k, ns, nd)) = _
  rw [h3]; rfl
theorem e_varR {k' : Nat} (h1 : Γ[i]? = some (.ref j k)) (h2 : Γ[j]? = some (.pool ns)) : dVarX i j Γ = .val (.s i, Γ) := by
  unfold dVarX dVarR refA poolA
  simp only [h1, h2, if_true]
  rfl
theorem e_lenR (h1 : Γ[i]? = some (.ref j k)) (h2 : Γ[j]? = some (.pool ns)) (h3 : ns[k]? = some nd) : dB (kLenR i j) (dAc (dVarX i j) dA0) Γ = .val (.d true (.int (nd.length : Nat)), Γ) := by
  refine e_B (a_cons (e_varR (k' := 0) h1 h2) a_nil) ?_
  unfold kLenR
  simp only [if_true, nodeA_of h1 h2 h3]
  rfl
theorem w_popR {a c : Nat} {n : Int} {fr : Bool} (h1 : Γ[i]? = some (.ref j k)) (h2 : Γ[j]? = some (.pool ns)) (h3 : ns[k]? = some nd) (hf : f Γ = .val (.d fr (.int n), Γ)) (hr : -(2 ^ 63) ≤ n ∧ n < 2 ^ 63) (hi : ixN nd.length n = some a) (ha : nd[a]? = some (.r c)) (hx : x ≠ j)
    (h : W r ((Γ.set j (.pool (ns.set k (nd.eraseIdx a)))).set x (.ref j c)) P) : W (bSeq (bSetR x j (rPopR i j f)) r) Γ P := by
  refine w_one ⟨_, ?_, h⟩
  have hlt : j < Γ.length := (List.getElem?_eq_some_iff.mp h2).1
  unfold bSetR rPopR
  rw [nodeA_of h1 h2 h3, ofO_some, bind_val, hf, bind_val]
  simp only [intA]
  rw [ofO_some, bind_val, nodeA_of h1 h2 h3, ofO_some, bind_val, decide_eq_true hr, req_true, bind_val, hi, ofO_some, bind_val]
  simp only [ha]
  rw [bind_val]
  simp only
  rw [decide_eq_true hx, req_true, bind_val]
  unfold poolA
  rw [List.getElem?_set_self hlt]
  rfl
theorem w_clrR (h1 : Γ[i]? = some (.ref j k)) (h2 : Γ[j]? = some (.pool ns)) (h3 : ns[k]? = some nd) (h : W r (Γ.set j (.pool (ns.set k []))) P) : W (bSeq (bExpr (dClrR i j)) r) Γ P := by
  refine w_expr (a := .d true .none) ?_ h
  unfold dClrR
  rw [nodeA_of h1 h2 h3]
  rfl
theorem w_extR {kk : DA} {as : List AV} {is : List Itm} {k0 : Nat} {ns0 : List (List Itm)} {nd0 : List Itm} (h01 : Γ[i]? = some (.ref j k0)) (h02 : Γ[j]? = some (.pool ns0)) (h03 : ns0[k0]? = some nd0) (hk : kk Γ = .val (as, Γ1)) (hs : szB as = true) (ha : adoptL j as Γ1 = some (is, Γ2))
    (h1 : Γ2[i]? = some (.ref j k)) (h2 : Γ2[j]? = some (.pool ns)) (h3 : ns[k]? = some nd) (hs2 : szB (nd ++ is) = true) (h : W r (Γ2.set j (.pool (ns.set k (nd ++ is)))) P) : W (bSeq (bExpr (dExtR i j kk)) r) Γ P := by
  refine w_expr (a := .d true .none) ?_ h
  unfold dExtR
  rw [nodeA_of h01 h02 h03, ofO_some, bind_val, hk, bind_val]
  simp only
  rw [hs, req_true, bind_val, ha, ofO_some, bind_val]
  simp only
  rw [nodeA_of h1 h2 h3, ofO_some, bind_val]
  simp only
  rw [hs2, req_true, bind_val]
theorem e_frzP {d : PyData} (h1 : Γ[i]? = some (.ref j k)) (h2 : Γ[j]? = some (.pool ns)) (h3 : ns[k]? = some nd) (hu : unr ns 100 k = some d) : dFrzP i j Γ = .val (.d true d, Γ.set j .un) := by
  unfold dFrzP
  rw [nodeA_of h1 h2 h3, ofO_some, bind_val]
  simp only
  rw [hu]; rfl
theorem w_newR {kk : DA} {as : List AV} {is : List Itm} (hk : kk Γ = .val (as, Γ1)) (hs : szB as = true) (ha : adoptL j as Γ1 = some (is, Γ2)) (h2 : Γ2[j]? = some (.pool ns)) (hx : x ≠ j) (h : W r ((Γ2.set j (.pool (ns ++ [is]))).set x (.ref j ns.length)) P) : W (bSeq (bSetR x j (rNew j kk)) r) Γ P := by
  refine w_one ⟨_, ?_, h⟩
  have hlt : j < Γ2.length := (List.getElem?_eq_some_iff.mp h2).1
  unfold bSetR rNew
  rw [hk, bind_val]
  simp only
  rw [hs, req_true, bind_val, ha, ofO_some, bind_val]
  simp only
  have e1 : poolA Γ2 j = some ns := by unfold poolA; simp only [h2]
  rw [e1, ofO_some, bind_val, bind_val]
  simp only
  rw [decide_eq_true hx, req_true, bind_val]
  unfold poolA
  rw [List.getElem?_set_self hlt]
  rfl
theorem w_pool (h1 : Γ[j]? = some .un) (h2 : Γ.any (isRef j) = false) (h : W r (Γ.set j (.pool [])) P) : W (bPool j r) Γ P := by
  unfold bPool W
  simp only [h1, h2]
  exact h
end
end PD
set_option linter.all false
set_option maxRecDepth 100000
set_option maxHeartbeats 0
set_option autoImplicit false
namespace PD
open PySem L2
def LfQ (ms : List Int) : Prop := 1 ≤ ms.length ∧ ms.length ≤ 4 ∧ ∀ x ∈ ms, 0 ≤ x ∧ x < 40
theorem left_g (d : Dk3) : ∃ (ms : List Int) (d' : Dk3), u_qleft [.c (dk d)] = .val (.c (.lst [.str "left", dT ms]), [.io (dk d')]) ∧ LfQ ms := by
  have key : Ok (u_qleft [.c (dk d)]) fun z => ∃ (ms : List Int) (d' : Dk3), z = (.c (.lst [.str "left", dT ms]), [.io (dk d')]) ∧ LfQ ms := by
    refine ok_run rfl ?_
    unfold b_qleft
    obtain ⟨a, d2, ha, a0, a1⟩ := take_n d 37 (by decide) (by decide)
    obtain ⟨b, d3, hb, b0, b1⟩ := take_n d2 4 (by decide) (by decide)
    apply w_set
    · exact e_x (x_callE (a_cons (e_varI rfl) (a_cons e_C a_nil)) rfl rfl rfl rfl ha rfl rfl) rfl
    have ec : nComp [2] (gN 2) (iRange1 (dAdd (dC (.int 1)) (eX (xCallC u_qtake_k34 0 [] (dAc (dVar 0) (dAc (dC (.int 4)) dA0)))))) tYes (dFrz (dAdd (dVar 1) (dVar 2))) [.io (dk d2), .dat true (.int a), .un] = .val ((rng 0 (1 + b)).map fun x => .int (a + x), [.io (dk d3), .dat true (.int a), .un]) :=
      n_map (enc := PyData.int) (rng 0 (1 + b)) (fun x => .int (a + x)) (i_range1 (fr := true) (e_add e_C (e_x (x_callE (a_cons (e_varI rfl) (a_cons e_C a_nil)) rfl rfl rfl rfl hb rfl rfl) rfl)) (cRng_of (by decide) (by decide) (by omega) (by omega))) (by unfold rng; simp; omega) rfl fun x hx => ⟨_, rfl, rfl, e_frz (e_add (e_var rfl) (e_var rfl))⟩
    clear ha hb
    apply w_retC
    · exact c_l (n_lst (a_cons e_C (a_cons (e_B (a_cons (e_ofN ec) a_nil) (k_tup rfl)) a_nil)) rfl rfl)
    refine ⟨_, _, rfl, rfl, (rng 0 (1 + b)).map fun x => a + x, d3, by rw [show dT ((rng 0 (1 + b)).map fun x => a + x) = PyData.tuple ((rng 0 (1 + b)).map fun x => PyData.int (a + x)) from by rw [dT, List.map_map]; rfl], ?_, ?_, fun x hx => ?_⟩
    · unfold rng; simp; omega
    · unfold rng; simp; omega
    · obtain ⟨y, hy, rfl⟩ := List.mem_map.mp hx
      have := rng_mem0.mp hy
      omega
  obtain ⟨z, e, ms, d', rfl, h⟩ := key
  exact ⟨ms, d', e, h⟩
structure GrI (lim : Int) (Q : List Int → Prop) (i : Nat) (L : List Nat) (t : PT) (ns : List (List Itm)) : Prop where
  two : 2 ≤ ns.length
  id : t.id = 0
  rp : Rp ns t
  lv : ns[1]? = some (L.map Itm.r)
  pm : L.Perm t.lv
  nd : t.lv.Nodup
  lt : ∀ j ∈ t.ids, j < ns.length
  n1 : 1 ∉ t.ids
  ln : L.length = i + 1
  pg : PlG lim Q t.pl
theorem GrI.start {lim : Int} {Q : List Int → Prop} {ms : List Int} (h : Q ms) : GrI lim Q 0 [0] (.lf 0 ms) [lfI ms, [.r 0]] :=
  ⟨by simp, rfl, rfl, rfl, List.Perm.refl _, by simp [PT.lv], by simp [PT.ids], by simp [PT.ids], rfl, h⟩
theorem GrI.step {lim : Int} {Q : List Int → Prop} {i a k : Nat} {L : List Nat} {t : PT} {ns : List (List Itm)} {m : Int} {mb mg : List Int} (G : GrI lim Q i L t ns) (ha : L[a]? = some k) (hm : 0 ≤ m ∧ m < lim) (hb : Q mb) (hg : Q mg) :
    GrI lim Q (i + 1) (L.eraseIdx a ++ [ns.length, ns.length + 1]) (t.grow k m ns.length mb (ns.length + 1) mg)
      (((((ns.set 1 ((L.eraseIdx a).map Itm.r)).set k []) ++ [lfI mb] ++ [lfI mg]).set k (trI m ns.length (ns.length + 1))).set 1 ((L.eraseIdx a ++ [ns.length, ns.length + 1]).map Itm.r)) := by
  obtain ⟨two, id0, rp, lv, pm, nd, lt, n1, ln, pg⟩ := G
  have hkL : k ∈ L := List.mem_of_getElem? ha
  have hkv : k ∈ t.lv := pm.mem_iff.mp hkL
  have hki : k ∈ t.ids := lv_ids hkv
  have hk1 : k ≠ 1 := fun z => n1 (z ▸ hki)
  have hkl := lt k hki
  obtain ⟨ms, hms⟩ := lv_lf rp hkv
  have hal : a < L.length := (List.getElem?_eq_some_iff.mp ha).1
  have pme : (k :: L.eraseIdx a).Perm L := by
    have h1 : L = L.take a ++ k :: L.drop (a + 1) := by
      conv => lhs; rw [← List.take_append_drop a L]
      rw [List.drop_eq_getElem_cons hal]
      rw [List.getElem?_eq_getElem hal] at ha
      rw [Option.some.inj ha]
    rw [List.eraseIdx_eq_take_drop_succ]
    conv => rhs; rw [h1]
    exact List.perm_middle.symm
  have per : (L.eraseIdx a).Perm (t.lv.erase k) := by
    have := pme.trans pm
    have h2 := this.erase k
    rw [List.erase_cons_head] at h2
    exact h2
  have pl : (t.grow k m ns.length mb (ns.length + 1) mg).lv.Perm (ns.length :: (ns.length + 1) :: t.lv.erase k) := lv_grow nd hkv
  let N1 := (ns.set 1 ((L.eraseIdx a).map Itm.r)).set k []
  have l1 : N1.length = ns.length := by simp [N1]
  have big : ∀ j ∈ t.lv, j < ns.length := fun j h => lt j (lv_ids h)
  have at1 : ∀ (x : List Itm) (M : List (List Itm)), 1 < M.length → (M.set 1 x)[1]? = some x := fun x M h => List.getElem?_set_self h
  refine ⟨?_, by rw [grow_id]; exact id0, ?_, ?_, ?_, ?_, fun j hj => ?_, fun hj => ?_, ?_, plG_grow hm hb hg pg⟩
  · simp <;> omega
  · refine rp_grow hms ?_ ?_ ?_ (fun j hj hne => ?_) rp
    · rw [List.getElem?_set_ne (Ne.symm hk1), List.getElem?_set_self (by simp; omega)]
    · rw [List.getElem?_set_ne (by omega), List.getElem?_set_ne (by omega), List.append_assoc, List.getElem?_append_right (by simp)]
      simp
    · rw [List.getElem?_set_ne (by omega), List.getElem?_set_ne (by omega), List.append_assoc, List.getElem?_append_right (by simp)]
      simp
    · have hjl := lt j hj
      have hj1 : j ≠ 1 := fun z => n1 (z ▸ hj)
      rw [List.getElem?_set_ne (Ne.symm hj1), List.getElem?_set_ne (Ne.symm hne), List.append_assoc, List.getElem?_append_left (by simp; exact hjl), List.getElem?_set_ne (Ne.symm hne), List.getElem?_set_ne (Ne.symm hj1)]
  · rw [List.getElem?_set_self (by simp <;> omega)]
  · refine List.Perm.trans ?_ pl.symm
    exact List.perm_append_comm.trans ((per.cons _).cons _)
  · rw [pl.nodup_iff]
    have e1 : ∀ j ∈ t.lv.erase k, j < ns.length := fun j h => big j (List.mem_of_mem_erase h)
    refine List.nodup_cons.mpr ⟨fun h => ?_, List.nodup_cons.mpr ⟨fun h => ?_, nd.erase k⟩⟩
    · rcases List.mem_cons.mp h with h | h
      · omega
      · have := e1 _ h; omega
    · have := e1 _ h; omega
  · simp
    rcases ids_grow hj with h | h | h
    · have := lt j h; omega
    · omega
    · omega
  · rcases ids_grow hj with h | h | h
    · exact n1 h
    · omega
    · omega
  · rw [List.length_append, List.length_eraseIdx, if_pos hal]
    simp; omega
theorem GrI.out {lim : Int} {Q : List Int → Prop} {i : Nat} {L : List Nat} {t : PT} {ns : List (List Itm)} (G : GrI lim Q i L t ns) (hi : i < 90) : unr ns 100 0 = some (plL t.pl) ∧ dpt t.pl ≤ i ∧ (lvs t.pl).length = i + 1 := by
  have h1 := dpt_lv t
  have h2 : t.lv.length = i + 1 := by rw [← G.pm.length_eq]; exact G.ln
  refine ⟨?_, by omega, by rw [lvs_lv, h2]⟩
  rw [← G.id]
  exact unr_rp G.rp (by omega)
end PD
set_option linter.all false
set_option maxRecDepth 100000
set_option maxHeartbeats 0
set_option autoImplicit false
namespace PDW
open PySem L2 PD
abbrev sT72 : List Str → PyData := fun a => .tuple (a.map .str)
inductive QT where
  | lf (k : Nat) (ms : List Int)
  | rd (k b : Nat) (tr : List Int) (r : QT)
  | nil
  | row (c : Nat) (a : List Str) (t r : QT)
def QT.id : QT → Nat
  | .lf k _ => k
  | .rd k _ _ _ => k
  | .nil => 0
  | .row _ _ _ _ => 0
def QT.refs : QT → List Itm
  | .lf _ _ => []
  | .rd _ _ _ _ => []
  | .nil => []
  | .row c _ _ r => .r c :: r.refs
def QT.ids : QT → List Nat
  | .lf k _ => [k]
  | .rd k b _ r => k :: b :: r.ids
  | .nil => []
  | .row c _ t r => c :: (t.ids ++ r.ids)
def QT.lv : QT → List Nat
  | .lf k _ => [k]
  | .rd _ _ _ r => r.lv
  | .nil => []
  | .row _ _ t r => t.lv ++ r.lv
def QT.len : QT → Nat
  | .lf _ _ => 0
  | .rd _ _ _ _ => 0
  | .nil => 0
  | .row _ _ _ r => r.len + 1
def QT.dp : QT → Nat
  | .lf _ _ => 0
  | .rd _ _ _ r => r.dp + 1
  | .nil => 0
  | .row _ _ t r => max t.dp r.dp
def QT.nn : QT → Nat
  | .lf _ _ => 1
  | .rd _ _ _ r => r.nn + 1
  | .nil => 0
  | .row _ _ t r => t.nn + r.nn
def QT.ok : Bool → QT → Prop
  | true, .lf _ ms => LfQ ms
  | true, .rd _ _ _ r => r.ok false ∧ 1 ≤ r.len ∧ r.len ≤ 4
  | false, .nil => True
  | false, .row _ a t r => t.ok true ∧ r.ok false ∧ ∀ w ∈ a, PyData.strOk w = true
  | _, _ => False
def rdI (tr : List Int) (b : Nat) : List Itm := [.d (.str "round"), .d (dT tr), .r b]
def QRp (ns : List (List Itm)) : QT → Prop
  | .lf k ms => ns[k]? = some (lfI ms)
  | .rd k b tr r => ns[k]? = some (rdI tr b) ∧ ns[b]? = some r.refs ∧ QRp ns r
  | .nil => True
  | .row c a t r => ns[c]? = some [.d (sT72 a), .r t.id] ∧ QRp ns t ∧ QRp ns r
def gw (k b : Nat) (tr : List Int) (w : QT) : QT → QT
  | .lf j ms => if j = k then .rd k b tr w else .lf j ms
  | .rd j b' tr' r => .rd j b' tr' (gw k b tr w r)
  | .nil => .nil
  | .row c a t r => .row c a (gw k b tr w t) (gw k b tr w r)
def QT.qv : QT → PyData × List PyData
  | .lf _ ms => (.list [.str "left", dT ms], [])
  | .rd _ _ tr r => (.list [.str "round", dT tr, .list r.qv.2], [])
  | .nil => (.none, [])
  | .row _ a t r => (.none, .list [sT72 a, t.qv.1] :: r.qv.2)
def QT.pv : QT → PyData × List PyData
  | .lf _ ms => (.tuple [.str "left", dT ms], [])
  | .rd _ _ tr r => (.tuple [.str "round", dT tr, .tuple r.pv.2], [])
  | .nil => (.none, [])
  | .row _ a t r => (.none, .tuple [sT72 a, t.pv.1] :: r.pv.2)
section
variable {k b : Nat} {tr ms : List Int} {w : QT} {ns ns' : List (List Itm)}
theorem qgrow_id : ∀ {t : QT}, (gw k b tr w t).id = t.id
  | .lf j ms => by
    unfold gw
    split
    · rename_i h; rw [h]; rfl
    · rfl
  | .rd _ _ _ _ => rfl
  | .nil => rfl
  | .row _ _ _ _ => rfl
theorem qgrow_refs : ∀ {t : QT} {z : Bool}, t.ok z → (gw k b tr w t).refs = t.refs
  | .lf j ms, _, _ => by
    unfold gw
    split <;> rfl
  | .rd _ _ _ _, _, _ => rfl
  | .nil, _, _ => rfl
  | .row c a t r, false, h => by
    show Itm.r c :: (gw k b tr w r).refs = Itm.r c :: r.refs
    rw [qgrow_refs h.2.1]
theorem qgrow_len : ∀ {t : QT}, (gw k b tr w t).len = t.len
  | .lf j ms => by
    unfold gw
    split <;> rfl
  | .rd _ _ _ _ => rfl
  | .nil => rfl
  | .row c a t r => by
    show (gw k b tr w r).len + 1 = r.len + 1
    rw [qgrow_len]
theorem qlv_ids : ∀ {t : QT} {j : Nat}, j ∈ t.lv → j ∈ t.ids
  | .lf k _, j, h => h
  | .rd k b _ r, j, h => List.mem_cons_of_mem _ (List.mem_cons_of_mem _ (qlv_ids (t := r) h))
  | .nil, j, h => h
  | .row c _ t r, j, h => by
    rcases List.mem_append.mp h with h | h
    · exact List.mem_cons_of_mem _ (List.mem_append_left _ (qlv_ids h))
    · exact List.mem_cons_of_mem _ (List.mem_append_right _ (qlv_ids h))
theorem qlv_lf : ∀ {t : QT} {j : Nat}, QRp ns t → j ∈ t.lv → ∃ ms, ns[j]? = some (lfI ms)
  | .lf k ms, j, h, hj => by
    have : j = k := by simpa [QT.lv] using hj
    rw [this]; exact ⟨ms, h⟩
  | .rd k b _ r, j, h, hj => qlv_lf (t := r) h.2.2 hj
  | .nil, j, h, hj => by simp [QT.lv] at hj
  | .row _ _ t r, j, h, hj => by
    rcases List.mem_append.mp hj with z | z
    · exact qlv_lf h.2.1 z
    · exact qlv_lf h.2.2 z
theorem lf_rd {ms : List Int} {tr : List Int} {b : Nat} : lfI ms ≠ rdI tr b := by
  intro h
  have := congrArg List.length h
  simp [lfI, rdI] at this
theorem lf_refs {ms : List Int} : ∀ {r : QT}, lfI ms ≠ r.refs
  | .lf _ _, h => by simp [lfI, QT.refs] at h
  | .rd _ _ _ _, h => by simp [lfI, QT.refs] at h
  | .nil, h => by simp [lfI, QT.refs] at h
  | .row _ _ _ _, h => by simp [lfI, QT.refs] at h
theorem lf_pair {ms : List Int} {a : PyData} {j : Nat} : lfI ms ≠ [.d a, .r j] := by
  intro h
  simp [lfI] at h
theorem qrp_grow (hk : ns[k]? = some (lfI ms)) (h1 : ns'[k]? = some (rdI tr b)) (h2 : ns'[b]? = some w.refs) (h3 : QRp ns' w) : ∀ {t : QT} {z : Bool}, t.ok z → (∀ j ∈ t.ids, j ≠ k → ns'[j]? = ns[j]?) → QRp ns t → QRp ns' (gw k b tr w t)
  | .lf j ms, _, _, e, h => by
    unfold gw
    split
    · exact ⟨h1, h2, h3⟩
    · rename_i hj
      show ns'[j]? = _
      rw [e j (by simp [QT.ids]) hj]
      exact h
  | .rd j c _ r, true, o, e, h => by
    obtain ⟨q1, q2, q3⟩ := h
    have hj : j ≠ k := fun z => by
      rw [z, hk] at q1
      exact lf_rd (Option.some.inj q1)
    have hc : c ≠ k := fun z => by
      rw [z, hk] at q2
      exact lf_refs (Option.some.inj q2)
    refine ⟨?_, ?_, qrp_grow hk h1 h2 h3 o.1 (fun i hi => e i (by simp [QT.ids, hi])) q3⟩
    · rw [e j (by simp [QT.ids]) hj]; exact q1
    · rw [qgrow_refs o.1, e c (by simp [QT.ids]) hc]; exact q2
  | .nil, _, _, _, _ => trivial
  | .row c a t r, false, o, e, h => by
    obtain ⟨q1, q2, q3⟩ := h
    have hc : c ≠ k := fun z => by
      rw [z, hk] at q1
      exact lf_pair (Option.some.inj q1)
    refine ⟨?_, qrp_grow hk h1 h2 h3 o.1 (fun i hi => e i (by simp [QT.ids, hi])) q2, qrp_grow hk h1 h2 h3 o.2.1 (fun i hi => e i (by simp [QT.ids, hi])) q3⟩
    rw [qgrow_id, e c (by simp [QT.ids]) hc]
    exact q1
theorem qids_grow : ∀ {t : QT} {j : Nat}, j ∈ (gw k b tr w t).ids → j ∈ t.ids ∨ j = b ∨ j ∈ w.ids
  | .lf i ms, j, h => by
    unfold gw at h
    split at h
    · rename_i e
      simp [QT.ids] at h ⊢
      rcases h with h | h | h
      · exact .inl (h.trans e.symm)
      · exact .inr (.inl h)
      · exact .inr (.inr h)
    · exact .inl h
  | .rd i c _ r, j, h => by
    have h : j ∈ i :: c :: (gw k b tr w r).ids := h
    rcases List.mem_cons.mp h with h | h
    · exact .inl (by simp [QT.ids, h])
    rcases List.mem_cons.mp h with h | h
    · exact .inl (by simp [QT.ids, h])
    · exact (qids_grow h).imp (fun z => by simp [QT.ids, z]) (fun z => z)
  | .nil, j, h => by simp [gw, QT.ids] at h
  | .row i _ x y, j, h => by
    have h : j ∈ i :: ((gw k b tr w x).ids ++ (gw k b tr w y).ids) := h
    rcases List.mem_cons.mp h with h | h
    · exact .inl (by simp [QT.ids, h])
    · rcases List.mem_append.mp h with h | h
      · exact (qids_grow h).imp (fun z => by simp [QT.ids, z]) (fun z => z)
      · exact (qids_grow h).imp (fun z => by simp [QT.ids, z]) (fun z => z)
theorem qgrow_out : ∀ {t : QT}, k ∉ t.lv → gw k b tr w t = t
  | .lf j ms, h => by
    unfold gw
    rw [if_neg fun z => h (by simp [QT.lv, z])]
  | .rd j c _ r, h => by
    have h : k ∉ r.lv := h
    show QT.rd j c _ (gw k b tr w r) = _
    rw [qgrow_out h]
  | .nil, _ => rfl
  | .row j n x y, h => by
    have h : k ∉ x.lv ++ y.lv := h
    rw [List.mem_append, not_or] at h
    show QT.row j n (gw k b tr w x) (gw k b tr w y) = _
    rw [qgrow_out h.1, qgrow_out h.2]
theorem qlv_grow : ∀ {t : QT}, t.lv.Nodup → k ∈ t.lv → (gw k b tr w t).lv.Perm (w.lv ++ t.lv.erase k) ∧ (gw k b tr w t).nn = t.nn + w.nn
  | .lf j ms, _, h => by
    have h : k = j := by simpa [QT.lv] using h
    subst h
    unfold gw
    rw [if_pos rfl]
    exact ⟨by simp [QT.lv], by simp only [QT.nn]; omega⟩
  | .rd j c _ r, hn, h => by
    obtain ⟨h1, h2⟩ := qlv_grow (t := r) hn h
    exact ⟨h1, by show (gw k b tr w r).nn + 1 = r.nn + 1 + w.nn; omega⟩
  | .nil, _, h => by simp [QT.lv] at h
  | .row j n x y, hn, h => by
    have hn : (x.lv ++ y.lv).Nodup := hn
    have h : k ∈ x.lv ++ y.lv := h
    obtain ⟨n1, n2, n3⟩ := List.nodup_append.mp hn
    show ((gw k b tr w x).lv ++ (gw k b tr w y).lv).Perm (w.lv ++ (x.lv ++ y.lv).erase k) ∧ (gw k b tr w x).nn + (gw k b tr w y).nn = x.nn + y.nn + w.nn
    by_cases hx : k ∈ x.lv
    · have hy : k ∉ y.lv := fun z => n3 k hx k z rfl
      obtain ⟨h1, h2⟩ := qlv_grow n1 hx
      rw [qgrow_out hy, List.erase_append_left _ hx]
      refine ⟨?_, by omega⟩
      rw [← List.append_assoc]
      exact h1.append_right y.lv
    · have hy : k ∈ y.lv := (List.mem_append.mp h).resolve_left hx
      obtain ⟨h1, h2⟩ := qlv_grow n2 hy
      rw [qgrow_out hx, List.erase_append_right _ hx]
      refine ⟨(h1.append_left x.lv).trans ?_, by omega⟩
      rw [← List.append_assoc, ← List.append_assoc]
      exact List.perm_append_comm.append_right _
theorem qdp_grow (hw : w.dp = 0) : ∀ {t : QT}, (gw k b tr w t).dp ≤ t.dp + 1
  | .lf j ms => by
    unfold gw
    split
    · simp only [QT.dp]; omega
    · simp only [QT.dp]; omega
  | .rd j c _ r => by
    have := qdp_grow hw (t := r)
    show (gw k b tr w r).dp + 1 ≤ r.dp + 1 + 1
    omega
  | .nil => by simp [gw, QT.dp]
  | .row j n x y => by
    have h1 := qdp_grow hw (t := x)
    have h2 := qdp_grow hw (t := y)
    show max (gw k b tr w x).dp (gw k b tr w y).dp ≤ max x.dp y.dp + 1
    omega
theorem qok_grow (hw : w.ok false) (h1 : 1 ≤ w.len) (h4 : w.len ≤ 4) : ∀ {t : QT} {z : Bool}, t.ok z → (gw k b tr w t).ok z
  | .lf j ms, true, o => by
    unfold gw
    split
    · exact ⟨hw, h1, h4⟩
    · exact o
  | .rd j c _ r, true, o => ⟨qok_grow hw h1 h4 o.1, by rw [qgrow_len]; exact o.2.1, by rw [qgrow_len]; exact o.2.2⟩
  | .nil, false, _ => trivial
  | .row j n x y, false, o => ⟨qok_grow hw h1 h4 o.1, qok_grow hw h1 h4 o.2.1, o.2.2⟩
theorem qunr : ∀ (t : QT) (F : Nat), QRp ns t → 3 * t.dp < F → (t.ok true → unr ns F t.id = some t.qv.1) ∧ (t.ok false → unrL (unr ns (F + 1)) t.refs = some t.qv.2)
  | .lf k ms, 0, _, hd => absurd hd (Nat.not_lt_zero _)
  | .lf k ms, F + 1, h, _ => by
    have h : ns[k]? = some (lfI ms) := h
    refine ⟨fun _ => ?_, fun o => o.elim⟩
    show ((ns[k]?).bind fun nd => (unrL (unr ns F) nd).map PyData.list) = _
    rw [h]; rfl
  | .rd k b tr r, F, h, hd => by
    refine ⟨fun o => ?_, fun o => o.elim⟩
    obtain ⟨q1, q2, q3⟩ := h
    have hd : 3 * (r.dp + 1) < F := hd
    obtain ⟨F, rfl⟩ : ∃ G, F = G + 3 := ⟨F - 3, by omega⟩
    have e := (qunr r F q3 (by omega)).2 o.1
    show ((ns[k]?).bind fun nd => (unrL (unr ns (F + 2)) nd).map PyData.list) = _
    rw [q1]
    have e1 : unr ns (F + 2) b = some (.list r.qv.2) := by
      show ((ns[b]?).bind fun nd => (unrL (unr ns (F + 1)) nd).map PyData.list) = _
      rw [q2]
      show (unrL (unr ns (F + 1)) r.refs).map PyData.list = _
      rw [e]; rfl
    show (unrL (unr ns (F + 2)) (rdI tr b)).map PyData.list = _
    simp [rdI, unrL, e1, QT.qv]
  | .nil, F, _, _ => ⟨fun o => o.elim, fun _ => rfl⟩
  | .row c a t r, F, h, hd => by
    refine ⟨fun o => o.elim, fun o => ?_⟩
    obtain ⟨q1, q2, q3⟩ := h
    have hd : 3 * max t.dp r.dp < F := hd
    have e1 := (qunr t F q2 (by omega)).1 o.1
    have e2 := (qunr r F q3 (by omega)).2 o.2.1
    have e3 : unr ns (F + 1) c = some (.list [sT72 a, t.qv.1]) := by
      show ((ns[c]?).bind fun nd => (unrL (unr ns F) nd).map PyData.list) = _
      rw [q1]
      simp [unrL, e1]
    show unrL (unr ns (F + 1)) (.r c :: r.refs) = _
    simp [unrL, e2, e3, QT.qv]
end
abbrev Ym := List Str × List Int
def YOk (y : Ym) : Prop := LfQ y.2 ∧ ∀ w ∈ y.1, PyData.strOk w = true
def mkR : Nat → List Ym → QT
  | _, [] => .nil
  | c, y :: ys => .row c y.1 (.lf (c + 1) y.2) (mkR (c + 2) ys)
def ymP (y : Ym) : Pr := (sT72 y.1, [.str "left", dT y.2])
def leR : Nat → Nat → List Nat
  | _, 0 => []
  | c, n + 1 => (c + 1) :: leR (c + 2) n
theorem mkR_refs : ∀ (c : Nat) (ys : List Ym), (mkR c ys).refs = (List.range ys.length).map fun k => Itm.r (c + 2 * k)
  | _, [] => rfl
  | c, y :: ys => by
    show Itm.r c :: (mkR (c + 2) ys).refs = _
    rw [mkR_refs, List.length_cons, List.range_succ_eq_map, List.map_cons, List.map_map]
    refine (List.cons.injEq ..).mpr ⟨rfl, List.map_congr_left fun k _ => ?_⟩
    show Itm.r (c + 2 + 2 * k) = Itm.r (c + 2 * (k + 1))
    rw [show c + 2 + 2 * k = c + 2 * (k + 1) by omega]
theorem mkR_rp {N : List (List Itm)} : ∀ (ys : List Ym) (A R : List (List Itm)), N = A ++ restP A.length (ys.map ymP) ++ R → QRp N (mkR A.length ys)
  | [], _, _, _ => trivial
  | y :: ys, A, R, h => by
    have h2 : N = (A ++ [[.d (sT72 y.1), .r (A.length + 1)], lfI y.2]) ++ restP (A ++ [[.d (sT72 y.1), .r (A.length + 1)], lfI y.2]).length (ys.map ymP) ++ R := by
      rw [h]
      simp [restP, ymP, lfI]
    have ih := mkR_rp ys _ R h2
    have hl : (A ++ [[Itm.d (sT72 y.1), .r (A.length + 1)], lfI y.2]).length = A.length + 2 := by simp
    rw [hl] at ih
    refine ⟨?_, ?_, ih⟩
    · rw [h, List.append_assoc, List.getElem?_append_right (by omega)]
      simp [restP, ymP, QT.id]
    · show N[A.length + 1]? = _
      rw [h, List.append_assoc, List.getElem?_append_right (by omega)]
      simp [restP, ymP, lfI]
theorem mkR_lv : ∀ (c : Nat) (ys : List Ym), (mkR c ys).lv = leR c ys.length
  | _, [] => rfl
  | c, y :: ys => by
    show [c + 1] ++ (mkR (c + 2) ys).lv = _
    rw [mkR_lv]; rfl
theorem mkR_ids : ∀ (c : Nat) (ys : List Ym), ∀ j ∈ (mkR c ys).ids, c ≤ j ∧ j < c + 2 * ys.length
  | _, [], j, h => by simp [mkR, QT.ids] at h
  | c, y :: ys, j, h => by
    have h : j ∈ c :: ([c + 1] ++ (mkR (c + 2) ys).ids) := h
    simp only [List.length_cons]
    rcases List.mem_cons.mp h with h | h
    · omega
    rcases List.mem_append.mp h with h | h
    · have : j = c + 1 := by simpa using h
      omega
    · have := mkR_ids (c + 2) ys j h
      omega
theorem mkR_len : ∀ (c : Nat) (ys : List Ym), (mkR c ys).len = ys.length
  | _, [] => rfl
  | c, y :: ys => by
    show (mkR (c + 2) ys).len + 1 = _
    rw [mkR_len]; rfl
theorem mkR_dp : ∀ (c : Nat) (ys : List Ym), (mkR c ys).dp = 0
  | _, [] => rfl
  | c, y :: ys => by
    show max 0 (mkR (c + 2) ys).dp = _
    rw [mkR_dp]; rfl
theorem mkR_nn : ∀ (c : Nat) (ys : List Ym), (mkR c ys).nn = ys.length
  | _, [] => rfl
  | c, y :: ys => by
    show 1 + (mkR (c + 2) ys).nn = _
    rw [mkR_nn, List.length_cons]; omega
theorem mkR_ok : ∀ (c : Nat) (ys : List Ym), (∀ y ∈ ys, YOk y) → (mkR c ys).ok false
  | _, [], _ => trivial
  | c, y :: ys, h => ⟨(h y (by simp)).1, mkR_ok _ ys fun z hz => h z (List.mem_cons_of_mem _ hz), (h y (by simp)).2⟩
theorem leR_mem : ∀ {c n j : Nat}, j ∈ leR c n → c < j ∧ j ≤ c + 2 * n
  | c, 0, j, h => by simp [leR] at h
  | c, n + 1, j, h => by
    have h : j ∈ (c + 1) :: leR (c + 2) n := h
    rcases List.mem_cons.mp h with h | h
    · omega
    · have := leR_mem h
      omega
theorem leR_nd : ∀ (c n : Nat), (leR c n).Nodup
  | _, 0 => List.nodup_nil
  | c, n + 1 => List.nodup_cons.mpr ⟨fun h => by have := leR_mem h; omega, leR_nd _ n⟩
theorem leR_len : ∀ (c n : Nat), (leR c n).length = n
  | _, 0 => rfl
  | c, n + 1 => by show (leR (c + 2) n).length + 1 = _; rw [leR_len]
theorem secR_rows {N : List (List Itm)} : ∀ (ys : List Ym) (A R : List (List Itm)), N = A ++ restP A.length (ys.map ymP) ++ R → secR N 1 (mkR A.length ys).refs = some ((leR A.length ys.length).map Itm.r)
  | [], _, _, _ => rfl
  | y :: ys, A, R, h => by
    have h2 : N = (A ++ [[.d (sT72 y.1), .r (A.length + 1)], lfI y.2]) ++ restP (A ++ [[.d (sT72 y.1), .r (A.length + 1)], lfI y.2]).length (ys.map ymP) ++ R := by
      rw [h]
      simp [restP, ymP, lfI]
    have ih := secR_rows ys _ R h2
    have hl : (A ++ [[Itm.d (sT72 y.1), .r (A.length + 1)], lfI y.2]).length = A.length + 2 := by simp
    rw [hl] at ih
    have e1 : N[A.length]? = some [.d (sT72 y.1), .r (A.length + 1)] := by
      rw [h, List.append_assoc, List.getElem?_append_right (by omega)]
      simp [restP, ymP]
    show secR N 1 (.r A.length :: (mkR (A.length + 2) ys).refs) = _
    unfold secR
    rw [e1]
    show ((secR N 1 (mkR (A.length + 2) ys).refs).map fun r => Itm.r (A.length + 1) :: r) = _
    rw [ih]; rfl
end PDW
set_option linter.all false
set_option maxRecDepth 100000
set_option maxHeartbeats 0
set_option autoImplicit false
namespace PDW
open PySem L2 PD
structure GrQ (i : Nat) (L : List Nat) (t : QT) (ns : List (List Itm)) : Prop where
  two : 2 ≤ ns.length
  id : t.id = 0
  rp : QRp ns t
  lv : ns[1]? = some (L.map Itm.r)
  pm : L.Perm t.lv
  nd : t.lv.Nodup
  lt : ∀ j ∈ t.ids, j < ns.length
  n1 : 1 ∉ t.ids
  l1 : 1 ≤ L.length
  l2 : L.length ≤ 3 * i + 1
  dp : t.dp ≤ i
  nn : t.nn ≤ 4 * i + 1
  ok : t.ok true
theorem GrQ.start {ms : List Int} (h : LfQ ms) : GrQ 0 [0] (.lf 0 ms) [lfI ms, [.r 0]] :=
  ⟨by simp, rfl, rfl, rfl, List.Perm.refl _, by simp [QT.lv], by simp [QT.ids], by simp [QT.ids], by simp, by simp, by simp [QT.dp], by simp [QT.nn], h⟩
def grN (ns : List (List Itm)) (L' : List Nat) (k : Nat) (tr : List Int) (ys : List Ym) : List (List Itm) :=
  ((((ns.set 1 (L'.map Itm.r)).set k []) ++ nodesP ns.length (ys.map ymP)).set k (rdI tr ns.length)).set 1 ((L' ++ leR (ns.length + 1) ys.length).map Itm.r)
theorem grN_form {ns : List (List Itm)} {L' : List Nat} {k : Nat} {tr : List Int} {ys : List Ym} (h1 : 2 ≤ ns.length) (hk : k < ns.length) : ∃ A, A.length = ns.length + 1 ∧ grN ns L' k tr ys = A ++ restP A.length (ys.map ymP) ++ [] ∧ A[ns.length]? = some (rootP ns.length ys.length) := by
  refine ⟨(((ns.set 1 (L'.map Itm.r)).set k (rdI tr ns.length)).set 1 ((L' ++ leR (ns.length + 1) ys.length).map Itm.r)) ++ [rootP ns.length ys.length], by simp, ?_, ?_⟩
  · unfold grN nodesP
    rw [List.length_map, List.append_nil, List.set_append_left _ _ (by simp; exact hk), List.set_append_left _ _ (by simp; omega), List.set_set, List.append_assoc]
    simp
  · rw [List.getElem?_append_right (by simp)]
    simp
theorem pm_erase {L : List Nat} {a k : Nat} (ha : L[a]? = some k) : (k :: L.eraseIdx a).Perm L := by
  have hal : a < L.length := (List.getElem?_eq_some_iff.mp ha).1
  have h1 : L = L.take a ++ k :: L.drop (a + 1) := by
    conv => lhs; rw [← List.take_append_drop a L]
    rw [List.drop_eq_getElem_cons hal]
    rw [List.getElem?_eq_getElem hal] at ha
    rw [Option.some.inj ha]
  rw [List.eraseIdx_eq_take_drop_succ]
  conv => rhs; rw [h1]
  exact List.perm_middle.symm
theorem GrQ.step {i a k : Nat} {L : List Nat} {t : QT} {ns : List (List Itm)} {tr : List Int} {ys : List Ym} (G : GrQ i L t ns) (ha : L[a]? = some k) (hy : ∀ y ∈ ys, YOk y) (y1 : 1 ≤ ys.length) (y4 : ys.length ≤ 4) :
    GrQ (i + 1) (L.eraseIdx a ++ leR (ns.length + 1) ys.length) (gw k ns.length tr (mkR (ns.length + 1) ys) t) (grN ns (L.eraseIdx a) k tr ys) := by
  obtain ⟨two, id0, rp, lv, pm, nd, lt, n1, l1, l2, dp, nn, ok⟩ := G
  have hkL : k ∈ L := List.mem_of_getElem? ha
  have hkv : k ∈ t.lv := pm.mem_iff.mp hkL
  have hki : k ∈ t.ids := qlv_ids hkv
  have hk1 : k ≠ 1 := fun z => n1 (z ▸ hki)
  have hkl := lt k hki
  obtain ⟨ms, hms⟩ := qlv_lf rp hkv
  have hal : a < L.length := (List.getElem?_eq_some_iff.mp ha).1
  have per : (L.eraseIdx a).Perm (t.lv.erase k) := by
    have := (pm_erase ha).trans pm
    have h2 := this.erase k
    rw [List.erase_cons_head] at h2
    exact h2
  obtain ⟨p1, p2⟩ := qlv_grow (b := ns.length) (tr := tr) (w := mkR (ns.length + 1) ys) nd hkv
  rw [mkR_lv] at p1
  rw [mkR_nn] at p2
  obtain ⟨A, hA, hf, hr⟩ := grN_form (ns := ns) (L' := L.eraseIdx a) (k := k) (tr := tr) (ys := ys) two hkl
  have hlen : (grN ns (L.eraseIdx a) k tr ys).length = ns.length + 1 + 2 * ys.length := by
    rw [hf, List.append_nil, List.length_append, hA, restP_len, List.length_map]
  have big : ∀ j ∈ t.lv, j < ns.length := fun j h => lt j (qlv_ids h)
  have at1 : ∀ (x : List Itm) (M : List (List Itm)), 1 < M.length → (M.set 1 x)[1]? = some x := fun x M h => List.getElem?_set_self h
  have hmw : QRp (grN ns (L.eraseIdx a) k tr ys) (mkR (ns.length + 1) ys) := by
    have := mkR_rp ys A [] hf
    rw [hA] at this
    exact this
  refine ⟨by rw [hlen]; omega, by rw [qgrow_id]; exact id0, ?_, ?_, ?_, ?_, fun j hj => ?_, fun hj => ?_, ?_, ?_, ?_, ?_, ?_⟩
  · refine qrp_grow hms ?_ ?_ hmw ok (fun j hj hne => ?_) rp
    · unfold grN
      rw [List.getElem?_set_ne (Ne.symm hk1), List.getElem?_set_self (by simp; omega)]
    · rw [hf, List.append_nil, List.getElem?_append_left (by omega), hr, mkR_refs]
      rfl
    · have hjl := lt j hj
      have hj1 : j ≠ 1 := fun z => n1 (z ▸ hj)
      unfold grN
      rw [List.getElem?_set_ne (Ne.symm hj1), List.getElem?_set_ne (Ne.symm hne), List.getElem?_append_left (by simp; exact hjl), List.getElem?_set_ne (Ne.symm hne), List.getElem?_set_ne (Ne.symm hj1)]
  · unfold grN
    exact at1 _ _ (by simp; omega)
  · refine List.Perm.trans ?_ p1.symm
    exact List.perm_append_comm.trans (per.append_left _)
  · rw [p1.nodup_iff]
    refine List.nodup_append.mpr ⟨leR_nd _ _, nd.erase k, fun x hx y hy e => ?_⟩
    have h1 := leR_mem hx
    have h2 := big y (List.mem_of_mem_erase hy)
    omega
  · rw [hlen]
    rcases qids_grow hj with h | h | h
    · have := lt j h; omega
    · omega
    · have := mkR_ids _ _ j h; omega
  · rcases qids_grow hj with h | h | h
    · exact n1 h
    · omega
    · have := mkR_ids _ _ 1 h; omega
  · rw [List.length_append, leR_len]; omega
  · rw [List.length_append, leR_len, List.length_eraseIdx, if_pos hal]
    omega
  · have := qdp_grow (k := k) (b := ns.length) (tr := tr) (w := mkR (ns.length + 1) ys) (mkR_dp _ _) (t := t)
    omega
  · rw [p2]; omega
  · exact qok_grow (mkR_ok _ _ hy) (by rw [mkR_len]; exact y1) (by rw [mkR_len]; exact y4) ok
theorem GrQ.out {i : Nat} {L : List Nat} {t : QT} {ns : List (List Itm)} (G : GrQ i L t ns) (hi : i ≤ 30) : unr ns 100 0 = some t.qv.1 := by
  have := (qunr t 100 G.rp (by have := G.dp; omega)).1 G.ok
  rw [G.id] at this
  exact this
theorem answers_q (n m : Nat) (h1 : 1 ≤ m) (h3 : m ≤ 3) : ∃ as : List Str, u_qanswers [.d (.int (n : Nat)), .d (.int (m : Nat))] = .val (.d (sT72 as), [.un, .un]) ∧ ∀ w ∈ as, PyData.strOk w = true := by
  have key : Ok (u_qanswers [.d (.int (n : Nat)), .d (.int (m : Nat))]) fun z => ∃ as : List Str, z = (.d (sT72 as), [.un, .un]) ∧ ∀ w ∈ as, PyData.strOk w = true := by
    refine ok_run rfl ?_
    unfold b_qanswers
    apply w_setX
    · exact x_c (c_l (n_lst a_nil rfl rfl))
    refine w_forR (N := (m : Nat)) (S := List Str) (fun i as => as.length = i ∧ ∀ w ∈ as, PyData.strOk w = true) (fun as => [.dat true (.int (n : Nat)), .dat true (.int (m : Nat)), .own (.lst (as.map PyData.str)), .un]) [] (i_range1 (e_var rfl) (cRng_of (by decide) (by decide) (by omega) (by omega))) rfl ⟨rfl, by simp⟩ ?_ ?_
    · intro i as hi ⟨hl, hok⟩
      refine ⟨_, rfl, ?_⟩
      have hv : ∃ v : Int, atI [PyData.int 4, .int 2, .int 1] ((i : Nat) + 3 - (m : Nat) : Int) = some (.int v) ∧ 0 < v ∧ v < 2 ^ 64 := by
        rcases (by omega : ((i : Nat) + 3 - (m : Nat) : Int) = 0 ∨ ((i : Nat) + 3 - (m : Nat) : Int) = 1 ∨ ((i : Nat) + 3 - (m : Nat) : Int) = 2) with e | e | e <;> rw [e]
        · exact ⟨4, rfl, by decide, by decide⟩
        · exact ⟨2, rfl, by decide, by decide⟩
        · exact ⟨1, rfl, by decide, by decide⟩
      obtain ⟨v, hv, v0, v1⟩ := hv
      have hw : ∃ w : Str, atI [PyData.str "bad", .str "good"] (((n : Nat) : Int) / v % 2) = some (.str w) ∧ PyData.strOk w = true := by
        rcases (by omega : ((n : Nat) : Int) / v % 2 = 0 ∨ ((n : Nat) : Int) / v % 2 = 1) with e | e <;> rw [e]
        · exact ⟨_, rfl, by decide +kernel⟩
        · exact ⟨_, rfl, by decide +kernel⟩
      obtain ⟨w, hw, hwo⟩ := hw
      refine w_norm (Γ' := [.dat true (.int (n : Nat)), .dat true (.int (m : Nat)), .own (.lst (as.map PyData.str)), .dat true (.int (i : Nat))]) rfl ?_
      apply w_expr
      · refine e_app (Γ1 := [.dat true (.int (n : Nat)), .dat true (.int (m : Nat)), .own (.lst (as.map PyData.str)), .dat true (.int (i : Nat))]) (io := false) (es := as.map PyData.str) (ds := as.map PyData.str) (d := .str w) rfl ?_ rfl ?_
        · refine e_ixL (e_ofN (n_lst (a_cons e_C (a_cons e_C a_nil)) rfl rfl)) (e_I (e_I (e_var rfl) (e_ixL (e_ofN (n_lst (a_cons e_C (a_cons e_C (a_cons e_C a_nil))) rfl rfl)) (e_I (e_add (e_var rfl) e_C) (e_var rfl) k_sub) hv) (k_div (divP v0 v1))) e_C (k_mod (modP (by decide)))) hw
        · apply ltS_of
          rw [List.length_map]; omega
      refine w_nil ⟨as ++ [w], ?_, by rw [List.length_append, hl]; rfl, fun w' h' => ?_⟩
      · rw [List.map_append]; rfl
      · rcases List.mem_append.mp h' with h' | h'
        · exact hok w' h'
        · rw [List.mem_singleton.mp h']; exact hwo
    · intro as ⟨hl, hok⟩
      apply w_ret
      · exact e_B (a_cons (e_varO rfl) a_nil) (k_tup (fr := true) (ds := as.map PyData.str) rfl)
      exact ⟨_, _, rfl, rfl, as, rfl, hok⟩
  obtain ⟨z, e, as, rfl, h⟩ := key
  exact ⟨as, e, h⟩
end PDW
set_option linter.all false
set_option maxRecDepth 100000
set_option maxHeartbeats 0
set_option autoImplicit false
namespace PDW
open PySem L2 PD
abbrev G72 (d : Dk3) (deep : Bool) (many : Nat) (s5 s6 s7 s8 s9 s10 s11 s12 s13 s14 : Sl) (ns : List (List Itm)) : List Sl := [.io (dk d), .dat true (.bool deep), .dat true (.int (many : Nat)), .ref 16 0, .ref 16 1, s5, s6, s7, s8, s9, s10, s11, s12, s13, s14, .un, .pool ns]
abbrev nI (x : Nat) : PyData := .int (x : Nat)
theorem n_X72 {Γ Γ1 : List Sl} {x : DX} {c : Cl} (h : x Γ = .val (.c c, Γ1)) : nX x Γ = .val (c, Γ1) := by unfold nX; rw [h]; rfl
theorem x_cut0T {Γ Γ1 Γ2 : List Sl} {f : DF} {o : DO} {ds : List PyData} {n : Nat} (h1 : f Γ = .val (.d true (.tuple ds), Γ1)) (h2 : o Γ1 = .val (some (n : Int), Γ2)) : xCut f oNone o Γ = .val (.d (.tuple (ds.take n)), Γ2) := by
  unfold xCut
  rw [h1, bind_val]
  show ((o Γ1).bind _) = _
  rw [h2, bind_val]
  unfold cutX
  show R.val (Rs.d (.tuple (cutD ds none (some (n : Int)))), Γ2) = _
  have : cutD ds none (some (n : Int)) = ds.take n := by
    unfold cutD
    rw [HT.sIx_none, HT.sIx_nat, List.drop_zero, Nat.sub_zero]
    by_cases h : n ≤ ds.length
    · rw [Nat.min_eq_left h]
    · rw [Nat.min_eq_right (by omega), List.take_length, List.take_of_length_le (by omega)]
  rw [this]
theorem rows_q (deep : Bool) (many : Nat) (s5 s6 s7 s9 s10 s11 s12 : Sl) (ns : List (List Itm)) (sz : Nat) (h1 : 1 ≤ sz) (h3 : sz ≤ 3) : ∀ (xs : List Nat) (d : Dk3), ∃ (ys : List Ym) (d' : Dk3), ys.length = xs.length ∧ (∀ y ∈ ys, YOk y) ∧
    compP [14] (gN 14) true (nPair (eX (xCall u_qanswers [] (dAc (dVar 14) (dAc (dVar 8) dA0)))) (nX (xCallC u_qleft 0 [] (dAc (dVar 0) dA0)))) (xs.map nI) (G72 d deep many s5 s6 s7 (.dat true (nI sz)) s9 s10 s11 s12 .un .un ns) = .val (ys.map ymP, G72 d' deep many s5 s6 s7 (.dat true (nI sz)) s9 s10 s11 s12 .un .un ns)
  | [], d => ⟨[], d, rfl, fun y hy => absurd hy List.not_mem_nil, rfl⟩
  | x :: xs, d => by
    obtain ⟨as, ha, hao⟩ := answers_q x sz h1 h3
    obtain ⟨ms, d2, hl, ql⟩ := left_g d
    obtain ⟨ys, d3, e1, e2, e3⟩ := rows_q deep many s5 s6 s7 s9 s10 s11 s12 ns sz h1 h3 xs d2
    refine ⟨(as, ms) :: ys, d3, by simp [e1], fun y hy => ?_, ?_⟩
    · rcases List.mem_cons.mp hy with rfl | hy
      · exact ⟨ql, hao⟩
      · exact e2 y hy
    rw [List.map_cons, compP_cons]
    have g1 : gN 14 true (nI x) (G72 d deep many s5 s6 s7 (.dat true (nI sz)) s9 s10 s11 s12 .un .un ns) = some (G72 d deep many s5 s6 s7 (.dat true (nI sz)) s9 s10 s11 s12 .un (.dat true (nI x)) ns) := rfl
    rw [g1, ofO_some, bind_val]
    have g2 : nPair (eX (xCall u_qanswers [] (dAc (dVar 14) (dAc (dVar 8) dA0)))) (nX (xCallC u_qleft 0 [] (dAc (dVar 0) dA0))) (G72 d deep many s5 s6 s7 (.dat true (nI sz)) s9 s10 s11 s12 .un (.dat true (nI x)) ns) = .val (ymP (as, ms), G72 d2 deep many s5 s6 s7 (.dat true (nI sz)) s9 s10 s11 s12 .un (.dat true (nI x)) ns) := by
      unfold nPair
      have f1 : dFrz (eX (xCall u_qanswers [] (dAc (dVar 14) (dAc (dVar 8) dA0)))) (G72 d deep many s5 s6 s7 (.dat true (nI sz)) s9 s10 s11 s12 .un (.dat true (nI x)) ns) = .val (.d true (sT72 as), G72 d deep many s5 s6 s7 (.dat true (nI sz)) s9 s10 s11 s12 .un (.dat true (nI x)) ns) :=
        e_frz (e_x (x_call (ds := [nI x, nI sz]) (a_cons (e_var rfl) (a_cons (e_var rfl) a_nil)) rfl ha) rfl)
      have f2 : nX (xCallC u_qleft 0 [] (dAc (dVar 0) dA0)) (G72 d deep many s5 s6 s7 (.dat true (nI sz)) s9 s10 s11 s12 .un (.dat true (nI x)) ns) = .val (.lst [.str "left", dT ms], G72 d2 deep many s5 s6 s7 (.dat true (nI sz)) s9 s10 s11 s12 .un (.dat true (nI x)) ns) :=
        n_X72 (x_callE (a_cons (e_varI rfl) a_nil) rfl rfl rfl rfl hl rfl rfl)
      rw [f1, bind_val]
      show (nX (xCallC u_qleft 0 [] (dAc (dVar 0) dA0)) _).bind _ = _
      rw [f2]; rfl
    rw [g2]
    show ((compP [14] (gN 14) true _ (xs.map nI) (wipeG (G72 d2 deep many s5 s6 s7 (.dat true (nI sz)) s9 s10 s11 s12 .un (.dat true (nI x)) ns) [14])).bind fun r => R.val (ymP (as, ms) :: r.1, r.2)) = _
    have g3 : wipeG (G72 d2 deep many s5 s6 s7 (.dat true (nI sz)) s9 s10 s11 s12 .un (.dat true (nI x)) ns) [14] = G72 d2 deep many s5 s6 s7 (.dat true (nI sz)) s9 s10 s11 s12 .un .un ns := rfl
    rw [g3, e3]
    rfl
theorem drawn_q (deep : Bool) (many : Nat) (s5 s6 s7 s9 s10 s11 : Sl) (ns : List (List Itm)) (sz : Nat) (h1 : 1 ≤ sz) (h3 : sz ≤ 3) (d : Dk3) : ∃ (xs : List Nat) (d' : Dk3),
    nComp [14] (gN 14) (iRange1 (dIxB (dOfN (dLst (dAc (dC (.int 2)) (dAc (dC (.int 4)) (dAc (dC (.int 8)) dA0))))) (dI kSub (dVar 8) (dC (.int 1))))) (dTst (dCmp kEq (eX (xCallC u_qtake_k34 0 [] (dAc (dVar 0) (dAc (dC (.int 2)) dA0)))) (dC (.int 0)))) (dFrz (dVar 14)) (G72 d deep many s5 s6 s7 (.dat true (nI sz)) s9 s10 s11 .un .un .un ns) = .val (xs.map nI, G72 d' deep many s5 s6 s7 (.dat true (nI sz)) s9 s10 s11 .un .un .un ns) := by
  have hv : ∃ v : Nat, atI [PyData.int 2, .int 4, .int 8] ((sz : Nat) - 1 : Int) = some (.int v) ∧ v ≤ 8 := by
    rcases (by omega : sz = 1 ∨ sz = 2 ∨ sz = 3) with rfl | rfl | rfl
    · exact ⟨2, rfl, by decide⟩
    · exact ⟨4, rfl, by decide⟩
    · exact ⟨8, rfl, by decide⟩
  obtain ⟨v, hv, v8⟩ := hv
  obtain ⟨out, d', e, xs, rfl⟩ := n_compS (enc := PyData.int) (rng 0 (v : Int)) (S := Dk3) (fun i out _ => ∃ xs : List Nat, out = xs.map nI) (fun d => G72 d deep many s5 s6 s7 (.dat true (nI sz)) s9 s10 s11 .un .un .un ns) d (vs := [14]) (g := gN 14) (t := dTst (dCmp kEq (eX (xCallC u_qtake_k34 0 [] (dAc (dVar 0) (dAc (dC (.int 2)) dA0)))) (dC (.int 0)))) (e := dFrz (dVar 14))
    (i_range1 (f := dIxB (dOfN (dLst (dAc (dC (.int 2)) (dAc (dC (.int 4)) (dAc (dC (.int 8)) dA0))))) (dI kSub (dVar 8) (dC (.int 1)))) (Γ := G72 d deep many s5 s6 s7 (.dat true (nI sz)) s9 s10 s11 .un .un .un ns) (e_ixL (e_ofN (n_lst (a_cons e_C (a_cons e_C (a_cons e_C a_nil))) rfl rfl)) (e_I (e_var rfl) e_C k_sub) hv) (cRng_of (by decide) (by decide) (by omega) (by omega)))
    (by rw [rng_len]; omega) rfl ⟨[], rfl⟩ (by
      rintro i x out d1 hx ⟨xs, rfl⟩
      obtain ⟨rfl, hi⟩ := rng_at hx
      obtain ⟨a, d2, ha, a0, a1⟩ := take_n d1 2 (by decide) (by decide)
      refine ⟨_, rfl, _, _, t_tst (e_cmp (e_x (x_callE (a_cons (e_varI rfl) (a_cons e_C a_nil)) rfl rfl rfl rfl ha rfl rfl) rfl) e_C k_eqI), fun _ => ⟨_, _, d2, e_frz (e_var rfl), rfl, xs ++ [i], ?_⟩, fun _ => ⟨d2, rfl, xs, rfl⟩⟩
      rw [List.map_append]; rfl)
  exact ⟨xs, d', e⟩
end PDW
set_option linter.all false
set_option maxRecDepth 100000
set_option maxHeartbeats 0
set_option autoImplicit false
namespace PDW
open PySem L2 PD
theorem e_varXO72 {Γ : List Sl} {i j : Nat} {c : Cl} (h : Γ[i]? = some (.own c)) : dVarX i j Γ = .val (.s i, Γ) := by
  unfold dVarX
  simp only [h]
  exact e_varO h
theorem ofDs_map : ∀ ds : List PyData, ofDs (ds.map Tre.d) = some ds
  | [] => rfl
  | d :: ds => by
    show ((ofDs (ds.map Tre.d)).map fun r => d :: r) = _
    rw [ofDs_map ds]; rfl
theorem ofT_prsT (ys : List Pr) : ofT (prsT ys) = some ys := by
  have h : ∀ ys : List Pr, ofRows (ys.map prT) = some ys := by
    intro ys
    induction ys with
    | nil => rfl
    | cons y ys ih =>
      have hr : ofRow (prT y) = some y := by
        obtain ⟨a, ds⟩ := y
        show ((ofDs (ds.map Tre.d)).map fun r => (a, r)) = _
        rw [ofDs_map ds]; rfl
      show ((ofRow (prT y)).bind fun r => (ofRows (ys.map prT)).map fun rs => r :: rs) = _
      rw [hr, ih]; rfl
  exact h ys
theorem w_adP72 {i j : Nat} {ys : List Pr} {ns : List (List Itm)} {g : DS} {Γ : List Sl} {P : Fw → List Sl → Prop} (h1 : Γ[i]? = some (.own (.tr (prsT ys)))) (h2 : Γ[j]? = some (.pool ns)) (h : W g ((Γ.set i (.ref j ns.length)).set j (.pool (ns ++ nodesP ns.length ys))) P) : W (bAdP i j g) Γ P := by
  have e1 : poolA Γ j = some ns := by unfold poolA; simp only [h2]
  unfold bAdP W
  simp only [h1, e1, ofT_prsT]
  exact h
theorem e_extC72 {i j l r c : Nat} {Γ : List Sl} {k m : Nat} {ns : List (List Itm)} {nd rows is : List Itm} (h1 : Γ[i]? = some (.ref j k)) (h2 : Γ[j]? = some (.pool ns)) (h3 : ns[k]? = some nd) (h4 : Γ[l]? = some (.ref j m)) (h5 : ns[m]? = some rows) (h6 : secR ns c rows = some is)
    (hd : r < Γ.length ∧ r ≠ i ∧ r ≠ j ∧ r ≠ l) (hr : rows.length < sizeLine) (hs : szB (nd ++ is) = true) : dExtC i j l r c Γ = .val (.d true .none, (Γ.set r .un).set j (.pool (ns.set k (nd ++ is)))) := by
  unfold dExtC
  rw [nodeA_of h1 h2 h3, ofO_some, bind_val, nodeA_of h4 h2 h5, ofO_some, bind_val]
  simp only
  rw [h6, ofO_some, bind_val, decide_eq_true hd, decide_eq_true hr, hs]
  rfl
theorem c_compP72 {vs : List Nat} {g : DG} {it : DI} {e : DP} {Γ Γ1 Γ2 : List Sl} {ds : List PyData} {fr : Bool} {ys : List Pr} (h1 : it Γ = .val ((ds, fr), Γ1)) (hs : szB ds = true) (h2 : compP vs g fr e ds (wipeG Γ1 vs) = .val (ys, Γ2)) : cCompP vs g it e Γ = .val (.tr (prsT ys), Γ2) := by
  unfold cCompP
  rw [h1, bind_val]
  simp only
  rw [hs, req_true, bind_val, h2]; rfl
end PDW
set_option linter.all false
set_option maxRecDepth 100000
set_option maxHeartbeats 0
set_option autoImplicit false
namespace PDW
open PySem L2 PD
theorem grown72 (d : Dk3) : ∃ (t : QT) (d' : Dk3), u_qgrown_k72 [.c (dk d)] = .val (.d t.qv.1, [.io (dk d')]) ∧ t.ok true ∧ t.dp ≤ 30 ∧ t.nn ≤ 121 := by
  have key : Ok (u_qgrown_k72 [.c (dk d)]) fun z => ∃ (t : QT) (d' : Dk3), z = (.d t.qv.1, [.io (dk d')]) ∧ t.ok true ∧ t.dp ≤ 30 ∧ t.nn ≤ 121 := by
    refine ok_run rfl ?_
    unfold b_qgrown_k72
    obtain ⟨a, d2, ha, a0, a1⟩ := take_n d 8 (by decide) (by decide)
    obtain ⟨b, d3, hb, b0, b1⟩ := take_n d2 13 (by decide) (by decide)
    apply w_set
    · exact e_cmp (e_x (x_callE (a_cons (e_varI rfl) (a_cons e_C a_nil)) rfl rfl rfl rfl ha rfl rfl) rfl) e_C k_eqI
    apply w_set
    · exact e_x (x_callE (a_cons (e_varI rfl) (a_cons e_C a_nil)) rfl rfl rfl rfl hb rfl rfl) rfl
    clear ha hb
    refine w_ifJ (S := Int × Dk3) (fun s => 0 ≤ s.1 ∧ s.1 ≤ 30) (fun s => [.io (dk s.2), .dat true (.bool (decide (a = 5))), .dat true (.int s.1), .un, .un, .un, .un, .un, .un, .un, .un, .un, .un, .un, .un, .un, .un]) (t_tst (e_var rfl)) ?_ ?_ ?_
    · intro _
      apply w_set
      · exact e_C
      exact w_nil ⟨(30, d3), rfl, by dsimp only; omega, by dsimp only; omega⟩
    · intro _
      exact w_nil ⟨(b, d3), rfl, by dsimp only; omega, by dsimp only; omega⟩
    rintro ⟨m, d5⟩ ⟨m0, m1⟩
    dsimp only at m0 m1 ⊢
    obtain ⟨many, rfl⟩ : ∃ n : Nat, m = (n : Int) := ⟨m.toNat, by omega⟩
    obtain ⟨deep, hdeep⟩ : ∃ z, z = decide (a = 5) := ⟨_, rfl⟩
    rw [← hdeep]
    clear hdeep
    obtain ⟨ms, d6, hl, ql⟩ := left_g d5
    apply w_setX
    · exact x_callE (a_cons (e_varI rfl) a_nil) rfl rfl rfl rfl hl rfl rfl
    refine w_norm (Γ' := [.io (dk d6), .dat true (.bool deep), .dat true (.int (many : Nat)), .own (.lst [.str "left", dT ms]), .un, .un, .un, .un, .un, .un, .un, .un, .un, .un, .un, .un, .un]) rfl ?_
    refine w_pool rfl rfl ?_
    refine w_newR (as := [.s 3]) (is := [.r 0]) (ns := [lfI ms]) (Γ1 := [.io (dk d6), .dat true (.bool deep), .dat true (.int (many : Nat)), .own (.lst [.str "left", dT ms]), .un, .un, .un, .un, .un, .un, .un, .un, .un, .un, .un, .un, .pool []]) (Γ2 := [.io (dk d6), .dat true (.bool deep), .dat true (.int (many : Nat)), .ref 16 0, .un, .un, .un, .un, .un, .un, .un, .un, .un, .un, .un, .un, .pool [lfI ms]]) (a_cons (e_varXO72 rfl) a_nil) rfl rfl rfl (by decide) ?_
    refine w_norm (Γ' := G72 d6 deep many .un .un .un .un .un .un .un .un .un .un [lfI ms, [.r 0]]) rfl ?_
    refine w_forR (N := (many : Nat)) (S := List Nat × QT × List (List Itm) × Dk3) (fun i s => GrQ i s.1 s.2.1 s.2.2.1) (fun s => G72 s.2.2.2 deep many .un .un .un .un .un .un .un .un .un .un s.2.2.1) ([0], .lf 0 ms, [lfI ms, [.r 0]], d6) (i_range1 (e_var rfl) (cRng_of (by decide) (by decide) (by omega) (by omega))) rfl (GrQ.start ql) ?_ ?_
    · rintro i ⟨L, t, ns, d1⟩ hi G
      dsimp only at G ⊢
      have hil : i < many := by omega
      have g1 := G.l1
      have g2 := G.l2
      refine ⟨_, rfl, ?_⟩
      refine w_norm (Γ' := G72 d1 deep many (.dat true (nI i)) .un .un .un .un .un .un .un .un .un ns) rfl ?_
      have hlen : ∀ (dd : Dk3) (s6 : Sl), dB (kLenR 4 16) (dAc (dVarX 4 16) dA0) (G72 dd deep many (.dat true (nI i)) s6 .un .un .un .un .un .un .un .un ns) = .val (.d true (nI L.length), G72 dd deep many (.dat true (nI i)) s6 .un .un .un .un .un .un .un .un ns) := fun dd s6 => by
        have := e_lenR (Γ := G72 dd deep many (.dat true (nI i)) s6 .un .un .un .un .un .un .un .un ns) (i := 4) (j := 16) rfl rfl G.lv
        rw [List.length_map] at this
        exact this
      obtain ⟨a, d2, ha, a0, a1⟩ := take_n d1 (L.length : Nat) (by omega) (by omega)
      apply w_set
      · exact e_x (x_callE (a_cons (e_varI rfl) (a_cons (hlen _ _) a_nil)) rfl rfl rfl rfl ha rfl rfl) rfl
      clear ha
      refine w_ifJ (S := Int) (fun c => 0 ≤ c ∧ c < (L.length : Nat)) (fun c => G72 d2 deep many (.dat true (nI i)) (.dat true (.int c)) .un .un .un .un .un .un .un .un ns) (t_tst (e_var rfl)) ?_ ?_ ?_
      · intro _
        apply w_set
        · exact e_I (e_I (hlen _ _) e_C k_sub) (e_I (e_var rfl) e_C (k_mod (modP (by decide)))) k_sub
        refine w_nil ⟨(L.length : Nat) - 1 - a % 2, rfl, ?_⟩
        omega
      · intro _
        exact w_nil ⟨a, rfl, a0, a1⟩
      rintro c ⟨c0, c1⟩
      clear a0 a1 hlen
      obtain ⟨cn, rfl⟩ : ∃ cn : Nat, c = (cn : Int) := ⟨c.toNat, by omega⟩
      have hcn : cn < L.length := by omega
      obtain ⟨k, hk⟩ : ∃ k, L[cn]? = some k := ⟨_, List.getElem?_eq_getElem hcn⟩
      have hki : k ∈ t.ids := qlv_ids (G.pm.mem_iff.mp (List.mem_of_getElem? hk))
      have hk1 : k ≠ 1 := fun z => G.n1 (z ▸ hki)
      have hkl := G.lt k hki
      have two := G.two
      obtain ⟨ms0, hms⟩ := qlv_lf G.rp (G.pm.mem_iff.mp (List.mem_of_getElem? hk))
      have er : (L.map Itm.r).eraseIdx cn = (L.eraseIdx cn).map Itm.r := by
        rw [List.eraseIdx_eq_take_drop_succ, List.eraseIdx_eq_take_drop_succ, List.map_append, List.map_take, List.map_drop]
      refine w_popR (nd := L.map Itm.r) (a := cn) (c := k) (fr := true) (n := (cn : Int)) rfl rfl G.lv (e_var rfl) (by omega) ?_ (by rw [List.getElem?_map, hk]; rfl) (by decide) ?_
      · rw [List.length_map]
        exact ixN_nat hcn
      rw [er]
      obtain ⟨N1, hN1⟩ : ∃ N1, N1 = ns.set 1 ((L.eraseIdx cn).map Itm.r) := ⟨_, rfl⟩
      rw [← hN1]
      refine w_norm (Γ' := G72 d2 deep many (.dat true (nI i)) (.dat true (nI cn)) (.ref 16 k) .un .un .un .un .un .un .un N1) rfl ?_
      obtain ⟨x1, d3, h3, p0, p1⟩ := take_n d2 3 (by decide) (by decide)
      apply w_set
      · exact e_add e_C (e_x (x_callE (a_cons (e_varI rfl) (a_cons e_C a_nil)) rfl rfl rfl rfl h3 rfl rfl) rfl)
      obtain ⟨sz, hsz⟩ : ∃ sz : Nat, 1 + x1 = (sz : Int) := ⟨(1 + x1).toNat, by omega⟩
      rw [hsz]
      refine w_norm (Γ' := G72 d3 deep many (.dat true (nI i)) (.dat true (nI cn)) (.ref 16 k) (.dat true (nI sz)) .un .un .un .un .un .un N1) rfl ?_
      have sz1 : 1 ≤ sz := by omega
      have sz3 : sz ≤ 3 := by omega
      clear h3 hsz p0 p1
      obtain ⟨fi, d4, h4, p0, p1⟩ := take_n d3 12 (by decide) (by decide)
      apply w_set
      · exact e_x (x_callE (a_cons (e_varI rfl) (a_cons e_C a_nil)) rfl rfl rfl rfl h4 rfl rfl) rfl
      clear h4 p0 p1
      obtain ⟨x2, d5, h5, p0, p1⟩ := take_n d4 12 (by decide) (by decide)
      apply w_set
      · exact e_add (e_add (e_var rfl) e_C) (e_x (x_callE (a_cons (e_varI rfl) (a_cons e_C a_nil)) rfl rfl rfl rfl h5 rfl rfl) rfl)
      clear h5 p0 p1
      obtain ⟨x3, d7, h7, p0, p1⟩ := take_n d5 12 (by decide) (by decide)
      refine w_norm (Γ' := G72 d5 deep many (.dat true (nI i)) (.dat true (nI cn)) (.ref 16 k) (.dat true (nI sz)) (.dat true (.int fi)) (.dat true (.int (fi + 1 + x2))) .un .un .un .un N1) rfl ?_
      apply w_set
      · exact e_frz (e_x (x_cut0T (ds := [.int fi, .int (fi + 1 + x2), .int (fi + 1 + x2 + 1 + x3)]) (n := sz) (e_tup (a_cons (e_frz (e_var rfl)) (a_cons (e_frz (e_var rfl)) (a_cons (e_add (e_add (e_var rfl) e_C) (e_x (x_callE (a_cons (e_varI rfl) (a_cons e_C a_nil)) rfl rfl rfl rfl h7 rfl rfl) rfl)) a_nil))) rfl rfl) (o_some (e_var rfl))) rfl)
      clear h7 p0 p1
      obtain ⟨tr, htr⟩ : ∃ tr : List Int, PyData.tuple (([.int fi, .int (fi + 1 + x2), .int (fi + 1 + x2 + 1 + x3)] : List PyData).take sz) = dT tr := ⟨([fi, fi + 1 + x2, fi + 1 + x2 + 1 + x3] : List Int).take sz, by unfold dT; rw [List.map_take]; rfl⟩
      rw [htr]
      clear htr
      refine w_norm (Γ' := G72 d7 deep many (.dat true (nI i)) (.dat true (nI cn)) (.ref 16 k) (.dat true (nI sz)) (.dat true (.int fi)) (.dat true (.int (fi + 1 + x2))) (.dat true (dT tr)) .un .un .un N1) rfl ?_
      obtain ⟨xs0, d8, h8⟩ := drawn_q deep many (.dat true (nI i)) (.dat true (nI cn)) (.ref 16 k) (.dat true (.int fi)) (.dat true (.int (fi + 1 + x2))) (.dat true (dT tr)) N1 sz sz1 sz3 d7
      apply w_set
      · exact e_frz (e_x (x_cut0 (ds := xs0.map nI) (n := 4) (e_ofN h8) (o_some e_C) rfl (by decide)) rfl)
      clear h8
      rw [show ((xs0.map nI).take (4 : Int).toNat) = (xs0.take 4).map nI from by rw [List.map_take]; rfl]
      have hx4 : (xs0.take 4).length ≤ 4 := by rw [List.length_take]; omega
      obtain ⟨xs, hxs⟩ : ∃ xs, xs = xs0.take 4 := ⟨_, rfl⟩
      rw [← hxs] at hx4 ⊢
      clear hxs
      refine w_norm (Γ' := G72 d8 deep many (.dat true (nI i)) (.dat true (nI cn)) (.ref 16 k) (.dat true (nI sz)) (.dat true (.int fi)) (.dat true (.int (fi + 1 + x2))) (.dat true (dT tr)) (.dat true (.list (xs.map nI))) .un .un N1) rfl ?_
      refine w_ifJ (S := List Nat) (fun ys => 1 ≤ ys.length ∧ ys.length ≤ 4) (fun ys => G72 d8 deep many (.dat true (nI i)) (.dat true (nI cn)) (.ref 16 k) (.dat true (nI sz)) (.dat true (.int fi)) (.dat true (.int (fi + 1 + x2))) (.dat true (dT tr)) (.dat true (.list (ys.map nI))) .un .un N1) (t_tst (e_cmp (e_B (a_cons (e_var rfl) a_nil) (k_lenI (enc := nI) rfl)) e_C rfl)) ?_ ?_ ?_
      · intro _
        apply w_set
        · exact e_ofN (n_lst (a_cons e_C (a_cons e_C a_nil)) rfl rfl)
        exact w_nil ⟨[0, 1], rfl, by simp, by simp⟩
      · intro hz
        refine w_nil ⟨xs, rfl, ?_, hx4⟩
        have := of_decide_eq_false hz
        omega
      clear hx4
      intro xs ⟨hx1, hx4⟩
      obtain ⟨ys, d9, y1, y2, y3⟩ := rows_q deep many (.dat true (nI i)) (.dat true (nI cn)) (.ref 16 k) (.dat true (.int fi)) (.dat true (.int (fi + 1 + x2))) (.dat true (dT tr)) (.dat true (.list (xs.map nI))) N1 sz sz1 sz3 xs d8
      apply w_setC
      · exact c_compP72 (i_seqL (e_var rfl)) (szB_map (by omega)) y3
      clear y3
      refine w_norm (Γ' := G72 d9 deep many (.dat true (nI i)) (.dat true (nI cn)) (.ref 16 k) (.dat true (nI sz)) (.dat true (.int fi)) (.dat true (.int (fi + 1 + x2))) (.dat true (dT tr)) (.dat true (.list (xs.map nI))) (.own (.tr (prsT (ys.map ymP)))) .un N1) rfl ?_
      refine w_clrR (i := 7) (j := 16) (k := k) (nd := lfI ms0) rfl rfl (by rw [hN1, List.getElem?_set_ne (Ne.symm hk1)]; exact hms) ?_
      obtain ⟨N2, hN2⟩ : ∃ N2, N2 = N1.set k [] := ⟨_, rfl⟩
      rw [← hN2]
      have lN : N2.length = ns.length := by rw [hN2, hN1]; simp
      refine w_adP72 (ys := ys.map ymP) (ns := N2) rfl rfl ?_
      rw [lN]
      obtain ⟨N3, hN3⟩ : ∃ N3, N3 = N2 ++ nodesP ns.length (ys.map ymP) := ⟨_, rfl⟩
      rw [← hN3]
      refine w_norm (Γ' := G72 d9 deep many (.dat true (nI i)) (.dat true (nI cn)) (.ref 16 k) (.dat true (nI sz)) (.dat true (.int fi)) (.dat true (.int (fi + 1 + x2))) (.dat true (dT tr)) (.dat true (.list (xs.map nI))) (.ref 16 ns.length) .un N3) rfl ?_
      have kN : N3[k]? = some [] := by rw [hN3, List.getElem?_append_left (by rw [lN]; exact hkl), hN2, List.getElem?_set_self (by rw [hN1]; simp; exact hkl)]
      refine w_extR (i := 7) (j := 16) (k0 := k) (k := k) (ns0 := N3) (nd0 := []) (nd := []) (as := [.d true (.str "round"), .d true (dT tr), .s 13]) (is := rdI tr ns.length) (ns := N3) (Γ2 := G72 d9 deep many (.dat true (nI i)) (.dat true (nI cn)) (.ref 16 k) (.dat true (nI sz)) (.dat true (.int fi)) (.dat true (.int (fi + 1 + x2))) (.dat true (dT tr)) (.dat true (.list (xs.map nI))) (.ref 16 ns.length) .un N3) rfl rfl kN
        (a_cons e_C (a_cons (e_var rfl) (a_cons (e_varR (k' := 0) rfl rfl) a_nil))) rfl rfl rfl rfl kN rfl ?_
      obtain ⟨N4, hN4⟩ : ∃ N4, N4 = N3.set k (rdI tr ns.length) := ⟨_, rfl⟩
      refine w_norm (Γ' := G72 d9 deep many (.dat true (nI i)) (.dat true (nI cn)) (.ref 16 k) (.dat true (nI sz)) (.dat true (.int fi)) (.dat true (.int (fi + 1 + x2))) (.dat true (dT tr)) (.dat true (.list (xs.map nI))) (.ref 16 ns.length) .un N4) (by rw [hN4]; rfl) ?_
      have hl3 : N3 = N2 ++ [rootP ns.length ys.length] ++ restP (ns.length + 1) (ys.map ymP) ++ [] := by
        rw [hN3]; unfold nodesP; rw [List.length_map]; simp
      have hl4 : ∃ A, A.length = ns.length + 1 ∧ N4 = A ++ restP A.length (ys.map ymP) ++ [] ∧ A[ns.length]? = some (rootP ns.length ys.length) := by
        refine ⟨N2.set k (rdI tr ns.length) ++ [rootP ns.length ys.length], by simp [lN], ?_, ?_⟩
        · rw [hN4, hl3, List.append_nil, List.append_nil, List.append_assoc, List.set_append_left _ _ (by rw [lN]; exact hkl), ← List.append_assoc]
          simp [lN]
        · rw [List.getElem?_append_right (by simp [lN])]
          simp [lN]
      obtain ⟨A, hA, hfA, hrA⟩ := hl4
      have k1 : N4[1]? = some ((L.eraseIdx cn).map Itm.r) := by
        rw [hN4, List.getElem?_set_ne hk1, hN3, List.getElem?_append_left (by rw [lN]; omega), hN2, List.getElem?_set_ne hk1, hN1, List.getElem?_set_self (by omega)]
      have kb : N4[ns.length]? = some (rootP ns.length ys.length) := by
        rw [hfA, List.append_nil, List.getElem?_append_left (by omega), hrA]
      have hsec : secR N4 1 (rootP ns.length ys.length) = some ((leR (ns.length + 1) ys.length).map Itm.r) := by
        have := secR_rows ys A [] hfA
        rw [hA, mkR_refs] at this
        exact this
      have hroot : (rootP ns.length ys.length).length = ys.length := by unfold rootP; simp
      have hrl : (rootP ns.length ys.length).length < sizeLine := by
        rw [hroot, y1]
        have : (5 : Nat) < sizeLine := by decide
        omega
      have hszB : szB ((L.eraseIdx cn).map Itm.r ++ (leR (ns.length + 1) ys.length).map Itm.r) = true := by
        apply szB_of
        rw [List.length_append, List.length_map, List.length_map, leR_len]
        have : (L.eraseIdx cn).length ≤ L.length := List.length_eraseIdx_le _ _
        omega
      apply w_expr
      · exact e_extC72 (Γ := G72 d9 deep many (.dat true (nI i)) (.dat true (nI cn)) (.ref 16 k) (.dat true (nI sz)) (.dat true (.int fi)) (.dat true (.int (fi + 1 + x2))) (.dat true (dT tr)) (.dat true (.list (xs.map nI))) (.ref 16 ns.length) .un N4) (i := 4) (j := 16) (l := 13) (r := 15) (c := 1) (k := 1) (m := ns.length) rfl rfl k1 rfl kb hsec ⟨(show 15 < 17 by decide), by decide, by decide, by decide⟩ hrl hszB
      refine w_nil ⟨(L.eraseIdx cn ++ leR (ns.length + 1) ys.length, gw k ns.length tr (mkR (ns.length + 1) ys) t, grN ns (L.eraseIdx cn) k tr ys, d9), ?_, G.step hk y2 (by omega) (by omega)⟩
      unfold grN
      rw [← hN1, ← hN2, ← hN3, ← hN4, List.map_append]
      rfl
    · rintro ⟨L, t, ns, d1⟩ G
      dsimp only at G ⊢
      have G : GrQ many L t ns := by simpa using G
      have o1 := G.out (by omega)
      have two := G.two
      apply w_ret
      · exact e_frzP rfl rfl (List.getElem?_eq_getElem (show 0 < ns.length by omega)) o1
      have e1 := G.dp
      have e2 := G.nn
      exact ⟨_, _, rfl, rfl, t, d1, rfl, G.ok, by omega, by omega⟩
  obtain ⟨z, e, t, d', rfl, h⟩ := key
  exact ⟨t, d', e, h⟩
end PDW
set_option linter.all false
set_option maxRecDepth 100000
set_option maxHeartbeats 0
set_option autoImplicit false
namespace PDW
open PySem L2 PD
theorem k_mx1_72 {Γ : List Sl} {a : AV} {ns : List Int} {m : Int} (h1 : rdInts Γ a = some ns) (h2 : maxL ns = some m) : kMax1 Γ [a] = .val (.d true (.int m)) := by
  show ((R.ofO ((rdInts Γ a).bind maxL)).bind _) = _
  rw [h1, Option.bind_some, h2]; rfl
abbrev Rw := List Str × QT
def rowsOf : QT → List Rw
  | .row _ a t r => (a, t) :: rowsOf r
  | _ => []
abbrev rwL : Rw → PyData := fun z => .list [sT72 z.1, z.2.qv.1]
abbrev rwP : Rw → PyData := fun z => .tuple [sT72 z.1, z.2.pv.1]
theorem qv_rows : ∀ {r : QT}, r.ok false → r.qv.2 = (rowsOf r).map rwL
  | .nil, _ => rfl
  | .row _ a t r, o => by
    show PyData.list [sT72 a, t.qv.1] :: r.qv.2 = _
    rw [qv_rows o.2.1]; rfl
theorem pv_rows : ∀ {r : QT}, r.ok false → r.pv.2 = (rowsOf r).map rwP
  | .nil, _ => rfl
  | .row _ a t r, o => by
    show PyData.tuple [sT72 a, t.pv.1] :: r.pv.2 = _
    rw [pv_rows o.2.1]; rfl
theorem rows_ok : ∀ {r : QT}, r.ok false → ∀ z ∈ rowsOf r, z.2.ok true ∧ z.2.dp ≤ r.dp
  | .nil, _, z, hz => by simp [rowsOf] at hz
  | .row _ a t r, o, z, hz => by
    have hz : z ∈ (a, t) :: rowsOf r := hz
    rcases List.mem_cons.mp hz with rfl | hz
    · exact ⟨o.1, by show t.dp ≤ max t.dp r.dp; omega⟩
    · have := rows_ok o.2.1 z hz
      exact ⟨this.1, by show z.2.dp ≤ max t.dp r.dp; omega⟩
theorem rows_len : ∀ {r : QT}, r.ok false → (rowsOf r).length = r.len
  | .nil, _ => rfl
  | .row _ a t r, o => by
    show (rowsOf r).length + 1 = r.len + 1
    rw [rows_len o.2.1]
theorem plan72 : ∀ (F : Nat) (t : QT), t.ok true → t.dp < F → u_qplan_k72 F [.n t.qv.1] = .val (.d t.pv.1, [.un])
  | 0, t, _, h => by omega
  | F + 1, .lf k ms, _, h => by
    refine ok_eq (ok_run rfl ?_)
    unfold b_qplan_k72
    have e0 : initS 3 [Ar.n (QT.lf k ms).qv.1] = [.dat true (.list [.str "left", dT ms]), .un, .un] := rfl
    rw [e0]
    apply w_ifY
    · exact t_tst (e_cmp (e_ixL (e_var rfl) e_C rfl) e_C k_eqS)
    · rfl
    and_intros
    apply w_ret
    · exact e_tup (a_cons e_C (a_cons (e_frz (e_ixL (e_var rfl) e_C rfl)) a_nil)) rfl rfl
    exact ⟨_, _, rfl, rfl, rfl⟩
  | F + 1, .rd k b tr r, o, h => by
    have h : r.dp + 1 < F + 1 := h
    refine ok_eq (ok_run rfl ?_)
    unfold b_qplan_k72
    have e0 : initS 3 [Ar.n (QT.rd k b tr r).qv.1] = [.dat true (.list [.str "round", dT tr, .list ((rowsOf r).map rwL)]), .un, .un] := by
      rw [← qv_rows o.1]; rfl
    rw [e0]
    have hlen := rows_len o.1
    have h4 := o.2.2
    apply w_ifN
    · exact t_tst (e_cmp (e_ixL (e_var rfl) e_C rfl) e_C k_eqS)
    · rfl
    and_intros
    have hc : nComp [1, 2] (gT2L (gN 1) (gN 2)) (iSeq (dIxB (dVar 0) (dC (.int 2)))) tYes (dFrz (dTup (dAc (dFrz (dVar 1)) (dAc (eX (xCallM (runB 3 1 (b_qplan_k72 F)) [true] [] (dAc (dFrz (dVar 2)) dA0))) dA0)))) [.dat true (.list [.str "round", dT tr, .list ((rowsOf r).map rwL)]), .un, .un] = .val ((rowsOf r).map rwP, [.dat true (.list [.str "round", dT tr, .list ((rowsOf r).map rwL)]), .un, .un]) :=
      n_map (enc := rwL) (rowsOf r) rwP (i_seqL (e_ixL (e_var rfl) e_C rfl)) (by omega) rfl fun z hz => by
        obtain ⟨z1, z2⟩ := rows_ok o.1 z hz
        have ih := plan72 F z.2 z1 (by omega)
        exact ⟨_, rfl, rfl, e_frz (e_tup (a_cons (e_frz (e_var rfl)) (a_cons (e_x (x_callM (ars := [.n z.2.qv.1]) (a_cons (e_frz (e_var rfl)) a_nil) rfl ih) rfl) a_nil)) rfl rfl)⟩
    apply w_ret
    · exact e_tup (a_cons e_C (a_cons (e_frz (e_ixL (e_var rfl) e_C rfl)) (a_cons (e_B (a_cons (e_ofN hc) a_nil) (k_tup (fr := true) (ds := (rowsOf r).map rwP) rfl)) a_nil))) rfl rfl
    refine ⟨_, _, rfl, rfl, ?_⟩
    show (Rs.d (.tuple [.str "round", dT tr, .tuple ((rowsOf r).map rwP)]), _) = _
    rw [← pv_rows o.1]; rfl
theorem fold_rows : ∀ {r : QT} {a : Int}, r.ok false → 0 ≤ a → ((rowsOf r).map fun z => ((z.2.dp : Nat) : Int)).foldl max2 a = max a (r.dp : Nat)
  | .nil, a, _, h => by
    show a = max a ((0 : Nat) : Int)
    omega
  | .row _ w t r, a, o, h => by
    show ((rowsOf r).map fun z => ((z.2.dp : Nat) : Int)).foldl max2 (max2 a (t.dp : Nat)) = max a ((max t.dp r.dp : Nat) : Int)
    have hm : max2 a (t.dp : Nat) = max a (t.dp : Nat) := by unfold max2; split <;> omega
    rw [hm, fold_rows o.2.1 (by omega)]
    omega
theorem max_rows : ∀ {r : QT}, r.ok false → 1 ≤ r.len → maxL ((rowsOf r).map fun z => ((z.2.dp : Nat) : Int)) = some ((r.dp : Nat) : Int)
  | .nil, _, h => by simp [QT.len] at h
  | .row _ w t r, o, _ => by
    show some (((rowsOf r).map fun z => ((z.2.dp : Nat) : Int)).foldl max2 ((t.dp : Nat) : Int)) = some ((max t.dp r.dp : Nat) : Int)
    rw [fold_rows o.2.1 (by omega)]
    congr 1
    omega
theorem depth72 : ∀ (F : Nat) (t : QT), t.ok true → t.dp < F → u_p_depth_of F [.d t.pv.1] = .val (.d (.int (t.dp : Nat)), [.un])
  | 0, t, _, h => by omega
  | F + 1, .lf k ms, _, h => by
    refine ok_eq (ok_run rfl ?_)
    unfold b_p_depth_of
    apply w_ifY
    · exact t_tst (e_cmp (e_ixT (ds := [.str "left", dT ms]) (e_var rfl) e_C rfl) e_C k_eqS)
    · rfl
    and_intros
    apply w_ret
    · exact e_C
    exact ⟨_, _, rfl, rfl, rfl⟩
  | F + 1, .rd k b tr r, o, h => by
    have h : r.dp + 1 < F + 1 := h
    refine ok_eq (ok_run rfl ?_)
    unfold b_p_depth_of
    have hpv : (QT.rd k b tr r).pv.1 = .tuple [.str "round", dT tr, .tuple ((rowsOf r).map rwP)] := by
      rw [← pv_rows o.1]; rfl
    rw [hpv]
    have hlen := rows_len o.1
    have h4 := o.2.2
    apply w_ifN
    · exact t_tst (e_cmp (e_ixT (ds := [.str "round", dT tr, .tuple ((rowsOf r).map rwP)]) (e_var rfl) e_C rfl) e_C k_eqS)
    · rfl
    and_intros
    have hc : nComp [1, 2] (gT2 (gN 1) (gN 2)) (iSeq (dIxB (dVar 0) (dC (.int 2)))) tYes (dFrz (eX (xCall (runB 3 1 (b_p_depth_of F)) [] (dAc (dVar 2) dA0)))) [.dat false (.tuple [.str "round", dT tr, .tuple ((rowsOf r).map rwP)]), .un, .un] = .val ((rowsOf r).map (fun z => PyData.int (z.2.dp : Nat)), [.dat false (.tuple [.str "round", dT tr, .tuple ((rowsOf r).map rwP)]), .un, .un]) :=
      n_map (enc := rwP) (rowsOf r) (fun z => .int (z.2.dp : Nat)) (i_seqT (e_ixT (ds := [.str "round", dT tr, .tuple ((rowsOf r).map rwP)]) (e_var rfl) e_C rfl)) (by omega) rfl fun z hz => by
        obtain ⟨z1, z2⟩ := rows_ok o.1 z hz
        exact ⟨_, rfl, rfl, e_frz (e_x (x_call (a_cons (e_var rfl) a_nil) rfl (depth72 F z.2 z1 (by omega))) rfl)⟩
    have hi0 : intsOf ((rowsOf r).map (fun z => PyData.int (z.2.dp : Nat))) = some ((rowsOf r).map fun z => ((z.2.dp : Nat) : Int)) := by
      rw [show (rowsOf r).map (fun z => PyData.int (z.2.dp : Nat)) = ((rowsOf r).map fun z => ((z.2.dp : Nat) : Int)).map PyData.int by rw [List.map_map]; rfl]
      exact intsOf_map _
    have hi : ∀ {Γ : List Sl}, rdInts Γ (.d true (.list ((rowsOf r).map (fun z => PyData.int (z.2.dp : Nat))))) = some ((rowsOf r).map fun z => ((z.2.dp : Nat) : Int)) := hi0
    apply w_ret
    · exact e_add e_C (e_B (a_cons (e_ofN hc) a_nil) (k_mx1_72 (m := (r.dp : Nat)) (ns := (rowsOf r).map fun z => ((z.2.dp : Nat) : Int)) hi (max_rows o.1 o.2.1)))
    refine ⟨_, _, rfl, rfl, ?_⟩
    show (Rs.d (.int (1 + (r.dp : Nat))), _) = (Rs.d (.int ((r.dp + 1 : Nat) : Int)), _)
    rw [show (1 + ((r.dp : Nat) : Int)) = ((r.dp + 1 : Nat) : Int) by omega]
end PDW
set_option linter.all false
set_option maxRecDepth 100000
set_option maxHeartbeats 0
set_option autoImplicit false
namespace PDW
open PySem L2 PD
theorem lay_ints72 : ∀ ms : List Int, PyData.canLayAll0 (ms.map PyData.int) = true
  | [] => rfl
  | x :: ms => by simp [PyData.canLayAll0, PyData.canLay0, lay_ints72 ms]
theorem lay_strs72 : ∀ ws : List Str, (∀ w ∈ ws, PyData.strOk w = true) → PyData.canLayAll0 (ws.map PyData.str) = true
  | [], _ => rfl
  | x :: ws, h => by
    have h1 := h x (by simp)
    have h2 := lay_strs72 ws fun w hw => h w (by simp [hw])
    simp [PyData.canLayAll0, PyData.canLay0, h1, h2]
theorem qv_lay : ∀ (t : QT), (t.ok true → t.qv.1.canLay0 = true) ∧ (t.ok false → PyData.canLayAll0 t.qv.2 = true)
  | .lf k ms => by
    refine ⟨fun _ => ?_, fun o => o.elim⟩
    have : PyData.strOk ("left" : Str) = true := by decide +kernel
    simp [QT.qv, PyData.canLay0, PyData.canLayAll0, lay_ints72, this]
  | .rd k b tr r => by
    refine ⟨fun o => ?_, fun o => o.elim⟩
    have : PyData.strOk ("round" : Str) = true := by decide +kernel
    have h := (qv_lay r).2 o.1
    simp [QT.qv, PyData.canLay0, PyData.canLayAll0, lay_ints72, this, h]
  | .nil => ⟨fun o => o.elim, fun _ => rfl⟩
  | .row c a t r => by
    refine ⟨fun o => o.elim, fun o => ?_⟩
    have h1 := (qv_lay t).1 o.1
    have h2 := (qv_lay r).2 o.2.1
    have h3 := lay_strs72 a o.2.2
    simp [QT.qv, PyData.canLay0, PyData.canLayAll0, h1, h2, h3]
theorem e_extS72 {Γ Γ1 : List Sl} {n : DN} {ds es xs : List PyData} {m : Nat} {io : Bool} (h0 : cellL Γ m = some (io, es)) (h1 : n Γ = .val (xs, Γ1)) (h2 : cellL Γ1 m = some (io, ds)) (h3 : szB (ds ++ xs) = true) : dExt m n Γ = .val (.d true .none, Γ1.set m (mkS io (.lst (ds ++ xs)))) := by
  unfold dExt
  rw [h0, ofO_some, bind_val, h1, bind_val, h2, ofO_some, bind_val, h3, req_true]
  rfl
abbrev Wt := QT × Nat
abbrev wtD : Wt → PyData := fun z => .tuple [z.1.qv.1, .int (z.2 : Nat)]
def mxW : List Wt → Nat
  | [] => 0
  | z :: l => max (z.2 + z.1.dp) (mxW l)
def nnW : List Wt → Nat
  | [] => 0
  | z :: l => z.1.nn + nnW l
theorem mxW_app : ∀ (l l' : List Wt), mxW (l ++ l') = max (mxW l) (mxW l')
  | [], l' => by simp [mxW]
  | z :: l, l' => by
    show max _ (mxW (l ++ l')) = max (max _ (mxW l)) (mxW l')
    rw [mxW_app l l']; omega
theorem nnW_app : ∀ (l l' : List Wt), nnW (l ++ l') = nnW l + nnW l'
  | [], l' => by simp [nnW]
  | z :: l, l' => by
    show _ + nnW (l ++ l') = _ + nnW l + nnW l'
    rw [nnW_app l l']; omega
theorem rows_W : ∀ {r : QT} {n : Nat}, r.ok false → mxW ((rowsOf r).map fun z => (z.2, n)) = (if r.len = 0 then 0 else n + r.dp) ∧ nnW ((rowsOf r).map fun z => (z.2, n)) = r.nn
  | .nil, n, _ => ⟨rfl, rfl⟩
  | .row _ a t r, n, o => by
    obtain ⟨h1, h2⟩ := rows_W (r := r) (n := n) o.2.1
    refine ⟨?_, ?_⟩
    · show max (n + t.dp) (mxW ((rowsOf r).map fun z => (z.2, n))) = if r.len + 1 = 0 then 0 else n + max t.dp r.dp
      rw [h1, if_neg (show ¬ (r.len + 1 = 0) by omega)]
      split
      · rename_i h
        have : r.dp = 0 := by
          cases r with
          | nil => rfl
          | row _ _ _ _ => simp [QT.len] at h
          | lf _ _ => rfl
          | rd _ _ _ _ => exact o.2.1.elim
        omega
      · omega
    · show t.nn + nnW ((rowsOf r).map fun z => (z.2, n)) = t.nn + r.nn
      rw [h2]
theorem nn_pos : ∀ {t : QT}, t.ok true → 1 ≤ t.nn
  | .lf _ _, _ => Nat.le_refl _
  | .rd _ _ _ r, _ => by simp only [QT.nn]; omega
theorem nnW_len : ∀ {l : List Wt}, (∀ z ∈ l, z.1.ok true) → l.length ≤ nnW l
  | [], _ => Nat.le_refl _
  | z :: l, h => by
    have h1 := nn_pos (h z (by simp))
    have h2 := nnW_len fun y hy => h y (List.mem_cons_of_mem z hy)
    simp only [nnW, List.length_cons]; omega
theorem lay_W : ∀ {l : List Wt}, (∀ z ∈ l, z.1.ok true) → PyData.canLayAll0 (l.map wtD) = true
  | [], _ => rfl
  | z :: l, h => by
    have h1 := (qv_lay z.1).1 (h z (by simp))
    have h2 := lay_W fun y hy => h y (List.mem_cons_of_mem z hy)
    simp [PyData.canLayAll0, PyData.canLay0, h1, h2]
theorem eqv_nil72 (ds : List PyData) : PyData.eqv (.list ds) (.list []) = ds.isEmpty := by
  cases ds <;> rfl
theorem k_neE72 {Γ : List Sl} {a : AV} {fr : Bool} {ds : List PyData} (h1 : rdD Γ a = some (.list ds)) (h2 : PyData.canLayAll0 ds = true) : kNeE Γ a (.d fr (.list [])) = .val (!ds.isEmpty) := by
  have h3 : rdD Γ (.d fr (.list [])) = some (.list []) := rfl
  unfold kNeE
  rw [h1, h3]
  simp only
  have hc : (PyData.canLay0 (.list ds) && PyData.canLay0 (.list []) && decide (min (PyData.depth (.list ds)) (PyData.depth (.list [])) ≤ 64)) = true := by
    have e1 : PyData.canLay0 (.list ds) = true := by simpa [PyData.canLay0] using h2
    have e2 : PyData.depth (.list []) = 1 := rfl
    rw [e1, e2, decide_eq_true (by omega)]; rfl
  rw [gq_of _ hc, eqv_nil72]
theorem most72 (t : QT) (o : t.ok true) (hn : t.nn ≤ 1000) (hd : t.dp ≤ 1000) : u_qmost [.n t.qv.1] = .val (.d (.int (t.dp : Nat)), [.un]) := by
  refine ok_eq (ok_run rfl ?_)
  unfold b_qmost
  apply w_set
  · exact e_C
  apply w_setX
  · exact x_c (c_l (n_lst (a_cons (e_tup (a_cons (e_frz (e_var rfl)) (a_cons e_C a_nil)) rfl rfl) a_nil) rfl rfl))
  refine w_norm (Γ' := [.dat true t.qv.1, .dat true (.int ((0 : Nat) : Int)), .own (.lst ([((t, 0) : Wt)].map wtD)), .un, .un, .un]) rfl ?_
  refine w_whileS (S := List Wt × Nat) (fun s => (∀ z ∈ s.1, z.1.ok true) ∧ max s.2 (mxW s.1) = t.dp ∧ nnW s.1 ≤ 1000 ∧ (∀ z ∈ s.1, z.2 ≤ 1000)) (fun s => nnW s.1) (fun s => [.dat true t.qv.1, .dat true (.int (s.2 : Nat)), .own (.lst (s.1.map wtD)), .un, .un, .un]) ([(t, 0)], 0) rfl ⟨by simpa using o, by simp [mxW], by simp only [nnW]; omega, by simp⟩ ?_ ?_
  · show nnW [(t, 0)] < 1000000
    simp only [nnW]; omega
  rintro ⟨l, m⟩ ⟨q1, q2, q3, q4⟩
  dsimp only at q1 q2 q3 q4 ⊢
  refine ⟨_, _, t_tst (e_cmp (e_varO rfl) (e_ofN (n_lst a_nil rfl rfl)) (k_neE72 (ds := l.map wtD) rfl (lay_W q1))), fun hz => ?_, fun hz => ?_⟩
  · have hl : l ≠ [] := fun e => by rw [e] at hz; simp at hz
    obtain ⟨l0, ⟨y, n⟩, rfl⟩ : ∃ l0 y, l = l0 ++ [y] := ⟨l.dropLast, l.getLast hl, (List.dropLast_concat_getLast hl).symm⟩
    have oy : y.ok true := q1 (y, n) (by simp)
    have hnn : n ≤ 1000 := q4 (y, n) (by simp)
    rw [mxW_app] at q2
    rw [nnW_app] at q3
    have q2 : max m (max (mxW l0) (max (n + y.dp) 0)) = t.dp := q2
    have q3 : nnW l0 + (y.nn + 0) ≤ 1000 := q3
    have w1 : ∀ z ∈ l0, z.1.ok true := fun z hz => q1 z (by simp [hz])
    have w4 : ∀ z ∈ l0, z.2 ≤ 1000 := fun z hz => q4 z (by simp [hz])
    have hnm : nnW (l0 ++ [(y, n)]) = nnW l0 + (y.nn + 0) := nnW_app _ _
    have hy1 := nn_pos oy
    have hl0 := nnW_len w1
    clear q1 q4
    refine w_norm (Γ' := [.dat true t.qv.1, .dat true (.int (m : Nat)), .own (.lst (l0.map wtD ++ [wtD (y, n)])), .un, .un, .un]) (by rw [List.map_append]; rfl) ?_
    apply w_setG
    · exact e_pop (io := false) (ds := l0.map wtD) (y := wtD (y, n)) rfl
    · rfl
    refine w_norm (Γ' := [.dat true t.qv.1, .dat true (.int (m : Nat)), .own (.lst (l0.map wtD)), .dat true y.qv.1, .dat true (.int (n : Nat)), .un]) rfl ?_
    apply w_set
    · exact e_B (a_cons (e_var rfl) (a_cons (e_var rfl) a_nil)) k_mx2
    have hm2 : max2 ((m : Nat) : Int) (n : Nat) = ((max m n : Nat) : Int) := by unfold max2; split <;> omega
    rw [hm2]
    cases y with
    | lf k ms =>
      apply w_ifN
      · exact t_tst (e_cmp (e_ixL (ds := [.str "left", dT ms]) (e_var rfl) e_C rfl) e_C k_eqS)
      · rfl
      and_intros
      refine w_nil ⟨(l0, max m n), rfl, ⟨w1, ?_, by dsimp only; omega, w4⟩, by dsimp only; omega⟩
      have : (QT.lf k ms).dp = 0 := rfl
      dsimp only; omega
    | rd k b tr r =>
      have hqv : (QT.rd k b tr r).qv.1 = .list [.str "round", dT tr, .list ((rowsOf r).map rwL)] := by
        rw [← qv_rows oy.1]; rfl
      rw [hqv]
      have hlen := rows_len oy.1
      have h4 := oy.2.2
      apply w_ifY
      · exact t_tst (e_cmp (e_ixL (ds := [.str "round", dT tr, .list ((rowsOf r).map rwL)]) (e_var rfl) e_C rfl) e_C k_eqS)
      · rfl
      and_intros
      refine w_norm (Γ' := [.dat true t.qv.1, .dat true (.int ((max m n : Nat) : Int)), .own (.lst (l0.map wtD)), .dat true (.list [.str "round", dT tr, .list ((rowsOf r).map rwL)]), .dat true (.int (n : Nat)), .un]) rfl ?_
      have hc : nComp [5] (gN 5) (iSeq (dIxB (dVar 3) (dC (.int 2)))) tYes (dFrz (dTup (dAc (dFrz (dIxB (dVar 5) (dC (.int 1)))) (dAc (dAdd (dVar 4) (dC (.int 1))) dA0)))) [.dat true t.qv.1, .dat true (.int ((max m n : Nat) : Int)), .own (.lst (l0.map wtD)), .dat true (.list [.str "round", dT tr, .list ((rowsOf r).map rwL)]), .dat true (.int (n : Nat)), .un] = .val ((rowsOf r).map (fun z => wtD (z.2, n + 1)), [.dat true t.qv.1, .dat true (.int ((max m n : Nat) : Int)), .own (.lst (l0.map wtD)), .dat true (.list [.str "round", dT tr, .list ((rowsOf r).map rwL)]), .dat true (.int (n : Nat)), .un]) :=
        n_map (enc := rwL) (rowsOf r) (fun z => wtD (z.2, n + 1)) (i_seqL (e_ixL (e_var rfl) e_C rfl)) (by omega) rfl fun z hz =>
          ⟨_, rfl, rfl, e_frz (e_tup (a_cons (e_frz (e_ixL (ds := [sT72 z.1, z.2.qv.1]) (e_var rfl) e_C rfl)) (a_cons (e_add (e_var rfl) e_C) a_nil)) rfl rfl)⟩
      apply w_expr
      · exact e_extS72 (io := false) (es := l0.map wtD) (ds := l0.map wtD) (m := 2) rfl hc rfl (szB_of (by rw [List.length_append, List.length_map, List.length_map]; omega))
      obtain ⟨r1, r2⟩ := rows_W (r := r) (n := n + 1) oy.1
      rw [if_neg (by have := oy.2.1; omega)] at r1
      have hdp : (QT.rd k b tr r).dp = r.dp + 1 := rfl
      have hnr : (QT.rd k b tr r).nn = r.nn + 1 := rfl
      rw [hdp] at q2
      rw [hnr] at q3 hnm
      refine w_nil ⟨(l0 ++ (rowsOf r).map (fun z => (z.2, n + 1)), max m n), ?_, ⟨fun z hz => ?_, ?_, ?_, fun z hz => ?_⟩, ?_⟩
      · dsimp only
        rw [List.map_append, List.map_map]
        rfl
      · rcases List.mem_append.mp hz with h | h
        · exact w1 z h
        · obtain ⟨w, hw, rfl⟩ := List.mem_map.mp h
          exact (rows_ok oy.1 w hw).1
      · dsimp only
        rw [mxW_app, r1]; omega
      · dsimp only
        rw [nnW_app, r2]; omega
      · rcases List.mem_append.mp hz with h | h
        · exact w4 z h
        · obtain ⟨w, hw, rfl⟩ := List.mem_map.mp h
          dsimp only; omega
      · dsimp only
        rw [nnW_app, r2, hnm]; omega
    | nil => exact oy.elim
    | row _ _ _ _ => exact oy.elim
  · have hl : l = [] := by
      cases l with
      | nil => rfl
      | cons _ _ => simp at hz
    subst hl
    apply w_ret
    · exact e_var rfl
    have : m = t.dp := by simpa [mxW] using q2
    subst this
    exact ⟨_, _, rfl, rfl, rfl⟩
end PDW
set_option linter.all false
set_option maxRecDepth 100000
set_option maxHeartbeats 0
set_option autoImplicit false
namespace PDW
open PySem L2 PD
theorem k_neI72 {Γ : List Sl} {f1 f2 : Bool} {i j : Int} : kNe Γ (.d f1 (.int i)) (.d f2 (.int j)) = .val (!decide (i = j)) := by
  unfold kNe
  rw [k_eqI]; rfl
theorem law_true (ns : List Int) (h : ns.length ≤ 63) : u_p_law [.d (.list (ns.map .int))] = .val (.d (.bool true), [.un]) := by
  refine ok_eq (ok_run rfl ?_)
  unfold b_p_law
  refine w_forR (N := 5) (S := Unit) (fun _ _ => True) (fun _ => [.dat false (dL ns), .un, .un, .un, .un, .un, .un]) () (i_range1 e_C (cRng_of (by decide) (by decide) (by omega) (by omega))) rfl trivial ?_ ?_
  · rintro i _ hi _
    refine ⟨_, rfl, ?_⟩
    obtain ⟨d1, hpen⟩ := pen_p ns i (by omega) (by omega)
    obtain ⟨t, d2, hgr, o, td, tn⟩ := grown72 d1
    have hplan := plan72 64 t o (by omega)
    have hdep := depth72 64 t o (by omega)
    have hmost := most72 t o (by omega) (by omega)
    apply w_setX
    · exact x_call (a_cons (e_var rfl) (a_cons (e_var rfl) a_nil)) rfl hpen
    apply w_set
    · exact e_x (x_callE (a_cons (e_varO rfl) a_nil) rfl rfl rfl rfl hgr rfl rfl) rfl
    apply w_set
    · exact e_x (x_callM (ars := [.n t.qv.1]) (a_cons (e_frz (e_var rfl)) a_nil) rfl hplan) rfl
    refine w_norm (Γ' := [.dat false (dL ns), .dat true (nI i), .own (dk d2), .dat true t.qv.1, .dat true t.pv.1, .un, .un]) rfl ?_
    refine w_forR (N := 2) (S := Unit) (fun _ _ => True) (fun _ => [.dat false (dL ns), .dat true (nI i), .own (dk d2), .dat true t.qv.1, .dat true t.pv.1, .un, .un]) () (i_range1 e_C (cRng_of (by decide) (by decide) (by omega) (by omega))) rfl trivial ?_ ?_
    · rintro j _ hj _
      refine ⟨_, rfl, ?_⟩
      apply w_set
      · exact e_x (x_call (a_cons (e_var rfl) a_nil) rfl hdep) rfl
      refine w_norm (Γ' := [.dat false (dL ns), .dat true (nI i), .own (dk d2), .dat true t.qv.1, .dat true t.pv.1, .dat true (nI j), .dat true (nI t.dp)]) rfl ?_
      apply w_ifN
      · exact t_or (t_not (t_tst (e_isi (e_var rfl) rfl rfl))) fun _ => t_or (t_tst (e_isi (e_var rfl) rfl rfl)) fun _ => t_tst (e_cmp (e_var rfl) (e_x (x_callM (ars := [.n t.qv.1]) (a_cons (e_frz (e_var rfl)) a_nil) rfl hmost) rfl) k_neI72)
      · simp [tyIs]
      and_intros
      exact w_nil ⟨(), rfl, trivial⟩
    · rintro ⟨⟩ _
      exact w_nil ⟨(), rfl, trivial⟩
  · rintro ⟨⟩ _
    apply w_ret
    · exact e_C
    exact ⟨_, _, rfl, rfl, rfl⟩
end PDW
end
end
end
end
set_option Elab.async false
set_option linter.all false
set_option maxRecDepth 100000
set_option maxHeartbeats 0
namespace PDW
open PySem PySem.Spec PyProof.Rows L2 PD
theorem envD {K : PySem.W.Frag} {hp : Heap} {mg : Str → Option Value} (X : K.In hp) (G : hp.Ns mainGlobals mg) (c : He.SaysD faD fnD K) : Env K mg where
  d_p_law := ⟨_, _, (c.def_ 0 (d := dd0) rfl).choose_spec, He.glo_ok X G (c.fact 0 (f := .glo "law") rfl)⟩
  d_qpen := ⟨_, _, (c.def_ 1 (d := dd1) rfl).choose_spec, He.glo_ok X G (c.fact 1 (f := .glo "_law_pen") rfl)⟩
  d_qgrown := ⟨_, _, (c.def_ 2 (d := dd2) rfl).choose_spec, He.glo_ok X G (c.fact 2 (f := .glo "_law_grown") rfl)⟩
  d_qtake := ⟨_, _, (c.def_ 3 (d := dd3) rfl).choose_spec, He.glo_ok X G (c.fact 3 (f := .glo "_law_take") rfl)⟩
  d_qleft := ⟨_, _, (c.def_ 4 (d := dd4) rfl).choose_spec, He.glo_ok X G (c.fact 4 (f := .glo "_law_left") rfl)⟩
  d_qanswers := ⟨_, _, (c.def_ 5 (d := dd5) rfl).choose_spec, He.glo_ok X G (c.fact 5 (f := .glo "_law_answers") rfl)⟩
  d_qplan := ⟨_, _, (c.def_ 6 (d := dd6) rfl).choose_spec, He.glo_ok X G (c.fact 6 (f := .glo "_law_plan") rfl)⟩
  d_p_depth_of := ⟨_, _, (c.def_ 7 (d := dd7) rfl).choose_spec, He.glo_ok X G (c.fact 7 (f := .glo "depth_of") rfl)⟩
  d_qmost := ⟨_, _, (c.def_ 8 (d := dd8) rfl).choose_spec, He.glo_ok X G (c.fact 8 (f := .glo "_law_most") rfl)⟩
  b_range := He.free_ok X G (c.fact 9 (f := .free "range") rfl)
  b_len := He.free_ok X G (c.fact 10 (f := .free "len") rfl)
  b_tuple := He.free_ok X G (c.fact 11 (f := .free "tuple") rfl)
  b_max := He.free_ok X G (c.fact 12 (f := .free "max") rfl)
  b_isinstance := He.free_ok X G (c.fact 13 (f := .free "isinstance") rfl)
  b_int := He.free_ok X G (c.fact 14 (f := .free "int") rfl)
  b_bool := He.free_ok X G (c.fact 15 (f := .free "bool") rfl)
theorem lawD {P : Program} {w : World} {K : PySem.W.Frag} {hp : Heap} {mg : Str → Option Value} {f : Addr} (X : K.In hp) (G : hp.Ns mainGlobals mg) (hf : mg ("law" : Str) = some (.ref f)) (c : He.SaysD faD fnD K) :
    ∃ fd : FuncData, (∀ (z : Shared) (v : Value), BindsTo z fd ⟨[v], []⟩ [("_law_script", v)]) ∧ ∀ base : Heap, FnOk P w K mg base (L2.CX P w) 66 f fd ["_law_script"] (spU K mg u_p_law) := by
  obtain ⟨fd, F⟩ := c.def_ 0 (d := dd0) rfl
  have e := hf.symm.trans (He.glo_ok X G (c.fact 0 (f := .glo "law") rfl))
  cases e
  have b := FunD.bindsA (ps := ["_law_script"]) F fun _ _ _ _ _ _ us hl => match us, hl with | [_], _ => rfl
  exact ⟨fd, fun z v => b z [v] rfl, fun base => fo_p_law (envD X G c) F⟩
theorem spD {K : PySem.W.Frag} {mg : Str → Option Value} {H : Hp} {a : Addr} {ns : List Int} (hl : ns.length ≤ 63) (hS : SqL K H a (ns.map V.int)) : spU K mg u_p_law [.ref a] H (fun v _ => v = .bl true) fun _ _ _ => False := spU_law (law_true ns hl) hS
theorem walkD {l : PySem.W.OpenLaw} {n k : Nat} {q : Program} {loose : List Str} {XP : (Str → Option Value) → Heap → Prop} {YP : World → Heap → Prop} {d : DefRec} {x : Str} (hn : l.most = some n) (hn2 : n ≤ sizeLine) (hdf : d.params.defaults = []) (hr : Room k callerA)
    (F : ∀ (w : World) (mg : Str → Option Value) (fa : Addr) (h : Heap), YP w h → h.Ns mainGlobals mg → mg d.name = some (.ref fa) →
      ∃ (K : PySem.W.Frag) (fd : FuncData) (sp : Sp), K.In h ∧ (∀ (z : Shared) (u : Value), BindsTo z fd ⟨[u], []⟩ [(x, u)]) ∧
        (∀ (H : Hp) (a : Addr) (ns : List Int), ns.length ≤ n → Only H → SqL K H a (ns.map V.int) → sp [.ref a] H (fun v _ => v = .bl true) fun _ _ _ => False) ∧
        ∀ base : Heap, K.In base → base.Ns mainGlobals mg → FnOk l.prog w K mg base (L2.CX l.prog w) k fa fd [x] sp) :
    PySem.W.WalkO q loose XP YP l.row.toRowW d [] (fun f vs => PySem.call f vs) := by
  refine Att.attach_call hn hdf fun w s0 s1 mg mb fa o pm cd doc a vs ns G Y ho hd hcd hmg hobj hints hlen hg => ?_
  obtain ⟨K, fd, sp, KX, hb, hsp, hF⟩ := F w mg fa _ Y G.T.g hmg
  exact law_call KX G.T.g G.T.b G.T.builtins G.T.nolimit hg hobj hints (Nat.le_trans hlen hn2) hr hF hb (fun H hO hS => hsp H a ns hlen hO hS) fun H e s' ⟨_, _, _, _, _, _, _, _, _, _, _, _, z⟩ => z
end PDW
open PySem PySem.W PySem.Calls PyProof.Rows
theorem PySem.Challenge.cw_badbegins_k72_depths_holds : PySem.Challenge.rw_badbegins_k72_depths.Holds := by
  w_on; o_law
  refine HandSHeadRun.head_any (r := OpenLaw.row PySem.Challenge.rw_badbegins_k72_depths) (q := view (OpenLaw.row PySem.Challenge.rw_badbegins_k72_depths).prog [10]) (H := PDW.hkD) (ob := PDW.obD) (M := 4000) (loose := PDW.looseD) (d := HandSHeadRun.topDef (OpenLaw.row PySem.Challenge.rw_badbegins_k72_depths).prog 10) (kwd := []) PDW.obD_eq
    (by kernel_rfl) (fun z => by kernel_rfl) PDW.runD (by kernel_rfl) (by kernel_rfl) (by kernel_rfl) (by rfl) (by first | assumption | decide +kernel) (by decide +kernel) ⟨rfl, rfl, rfl, rfl, rfl, by decide +kernel⟩ ?hw ?hc
  case hw => w_witness2
  case hc =>
    refine PDW.walkD (l := PySem.Challenge.rw_badbegins_k72_depths) (n := 63) (k := 66) (x := "_law_script") rfl (by decide) (by kernel_rfl) ⟨rfl, by decide, by decide⟩ ?F
    intro w mg fa hp Y G hmg0
    obtain ⟨K, KX, c⟩ := Y
    have hmg : mg ("law" : PySem.Str) = some (.ref fa) := by
      have e : (HandSHeadRun.topDef (OpenLaw.row PySem.Challenge.rw_badbegins_k72_depths).prog 10).name = ("law" : PySem.Str) := by kernel_rfl
      rw [← e]
      exact hmg0
    obtain ⟨fd, hb, hF⟩ := PDW.lawD (P := PySem.Challenge.rw_badbegins_k72_depths.prog) (w := w) KX G hmg c
    exact ⟨K, fd, _, KX, hb, fun H a ns hl _ hS => PDW.spD hl hS, fun base _ _ => hF base⟩
