import PyProof.Rows.All
import Wide.All
import OpenK.AllK
import Wide.FinOn
import HandS.Dict
import KE.KeyNested
import HandS.ForMost
import HandS.ForExc
import HandS.CallSlots
import HandS.Defaults
import HandS.HeadHook2
import HandS.IsInst
import HandS.SortInts
import HandS.Wide
import HandS.WideBits
import HandS.More
import HandS.TupAny
import HandS.Deep
import HandS.Zip
import HandS.Iter
import HandS.Lambda
import KE.GoesEnum
import HandS.SetFor
import HandS.Strs
import HandS.Comp
import HandS.Style
import HandS.Text
import HandS.TupSets
import HandS.Conv
import HandS.Zip0
import HandS.TupLe
import HandS.ExcInit
import HandS.ExcOwn
import HandS.ExcValue
import HandS.ExcField
import KE.KExcIs
import KE.KIsAll
import HandS.HotCalls
import KE.SortData
import KE.KDictSum
import HandS.TupMul
import KE.DataCmp
import KE.DataMinMax
import KE.KDictDisplayH
import KE.KDictCopyH
import HandS.Rev
import HandS.SortKw
import KE.SortKeyHeap
import KE.KDictWalk
import HandS.Codes
import KE.KMinKey
import KE.DataMinKey
import KE.OsArith
import PyProof.P3Eq
import HandS.Base
import HandS.Call
import HandS.Ends
import HandS.Words
import HandS.WordsExc
import HandS.Head0
import HandS.Head1
import HandS.Head2
import HandS.HeadEnd
import HandS.HeadHook1
import KE.KStateDown
import Lean
import PySem.Challenge.RW_badbegins_k80_named_nets_written
set_option Elab.async false
set_option linter.all false
set_option maxRecDepth 100000
set_option maxHeartbeats 4000000
set_option autoImplicit false
namespace PD
open PySem PySem.Spec L2
open PyProof.Rows hiding St
mutual
def nkD : PyData → Option NestedKey
  | .none => some .none
  | .bool b => some (.num (if b then 1 else 0))
  | .int i => some (.num i)
  | .tuple xs => (nkDs xs).map .tup
  | _ => none
def nkDs : List PyData → Option (List NestedKey)
  | [] => some []
  | x :: xs => match nkD x with
    | some k => (nkDs xs).map (k :: ·)
    | none => none
end
mutual
def noT : NestedKey → Bool
  | .text _ => false
  | .tup ks => noTs ks
  | _ => true
def noTs : List NestedKey → Bool
  | [] => true
  | k :: ks => noT k && noTs ks
end
def NdP (a : Addr) (rs : List (NestedKey × Addr × V)) : Heap → Prop := fun h => rs.length ≤ sizeLine ∧ (a == sysModules) = false ∧ (∀ r ∈ rs, noT r.1 = true) ∧
  ∃ (w' : World) (xs : List (NestedKey × Addr × Value)) (o : Obj) (es : Array DictEntry) (ep : Nat), Paired (fun (p : NestedKey × Addr × V) (q : NestedKey × Addr × Value) => p.1 = q.1 ∧ p.2.1 = q.2.1 ∧ RelV p.2.2 q.2.2) rs xs ∧
    h.get? a = some o ∧ o.ExactDict ∧ o.data = .dict es ep ∧ es.toList = xs.map (fun x => (⟨x.1.hash w', .ref x.2.1, x.2.2⟩ : DictEntry)) ∧ (xs.map (·.1)).Nodup
def NdO (a : Addr) (rs : List (NestedKey × Addr × V)) : HO := .ext (NdP a rs)
theorem nd_obj {P : Program} {w : World} {H : Hp} {h : Heap} {a : Addr} {rs : List (NestedKey × Addr × V)} (n : NdP a rs h) : ObjOk P w H h a (NdO a rs) := by
  refine ⟨n, ?_, ?_⟩
  · obtain ⟨_, _, _, _, _, o, _, _, _, ho, _⟩ := n
    exact ⟨o, ho⟩
  · rintro h1 h2 ⟨n1, n2, n3, w', xs, o, es, ep, r, ho, q⟩ k
    exact ⟨n1, n2, n3, w', xs, o, es, ep, r, k o ho, q⟩
def ndGet (rs : List (NestedKey × Addr × V)) (k : NestedKey) : Option V := (rs.find? fun r => decide (r.1 = k)).map (·.2.2)
def ndPut (rs : List (NestedKey × Addr × V)) (k : NestedKey) (b : Addr) (v : V) : List (NestedKey × Addr × V) := if rs.any (fun r => decide (r.1 = k)) then rs.map (fun r => if r.1 = k then (r.1, r.2.1, v) else r) else rs ++ [(k, b, v)]
section
variable {X : Cx} {pins : List (Addr × Obj)} {σ : St} {H : Hp} {s : Shared} {a b : Addr} {A : Around} {E : Value → Shared → Prop} {rs : List (NestedKey × Addr × V)} {k : NestedKey} {v : V} {r : Value}
def tDNewN : TE := fun _ H Q => ∀ p, H p = none → Q (.ref p) (upd H p (NdO p []))
theorem nd_empty {P : Program} {w : World} {H : Hp} (h : Heap) (hb : sysModules < h.objs.size) : ObjOk P w H (h.push { cls := .type "dict", data := .dict #[] }) h.objs.size (NdO h.objs.size []) :=
  nd_obj ⟨Nat.zero_le _, beq_eq_false_iff_ne.mpr (Ne.symm (Nat.ne_of_lt hb)), (fun _ h => nomatch h), w, [], _, #[], 0, .nil, Heap.get?_push_size _ rfl, ⟨rfl, rfl, rfl⟩, rfl, rfl, List.nodup_nil⟩
theorem pe_dnewN {pos : Pos} : PE X (.Dict [] [] pos) tDNewN := ⟨fun pins s σ H Q I h =>
  wpAny_Dict_empty ⟨.ref s.heap.objs.size, _, I.laid (a := s.heap.objs.size) (o := NdO s.heap.objs.size []) (t' := s.toks) (fun _ _ q => Heap.get?_push_of_some _ q) (Nat.le_refl _) (nd_empty s.heap I.big), rfl, h _ (I.hok.fresh (Nat.le_refl _))⟩⟩
end
end PD
set_option Elab.async false
set_option linter.all false
set_option maxRecDepth 100000
set_option maxHeartbeats 4000000
namespace PD
open PySem L2
abbrev Rg := Addr → HO → Prop
def LsR (K : PySem.W.Frag) (G : Rg) (a : Addr) (xs : List V) : Prop :=
  G a (.lst xs) ∨ (∃ o, G a (.frz o (.lst xs))) ∨ SqL K (fun _ => none) a xs
def keyD : Key → PyData
  | .inl i => .int i
  | .inr x => .str x
inductive Dk where
  | k
  | t
  | n
def encK (ks : List PyData) : List PyData := PyData.none :: ks.flatMap fun d => [d, .none]
def encV (rs : List (NestedKey × Addr × V)) : List V := V.non :: rs.flatMap fun r => [r.2.2, .ref r.2.1]
def DcO : Dk → Addr → HO → List PyData → List V → Prop
  | .k, _, o, ks, vs => ∃ kvs : List (Key × V), o = .dK kvs ∧ ks = kvs.map (fun z => keyD z.1) ∧ vs = kvs.map (·.2)
  | .t, _, o, ks, vs => ∃ kvs : List (List Key × V), o = .dT kvs ∧ ks = kvs.map (fun z => .tuple (z.1.map keyD)) ∧ vs = kvs.map (·.2)
  | .n, a, o, ks, vs => ∃ (rs : List (NestedKey × Addr × V)) (kds : List PyData), o = NdO a rs ∧ kds.map nkD = rs.map (fun r => some r.1) ∧ (∀ r ∈ rs, r.1.depth ≤ 8) ∧ ks = encK kds ∧ vs = encV rs
def XvO (K : PySem.W.Frag) (nm : Str) (d : Option Addr) (a : Addr) : HO :=
  .ext fun h => ∃ (oe : Obj) (vs : Array Value), h.get? a = some oe ∧ Zc (.ref (He.ga K nm)) d oe ∧ oe.data = .fields vs
abbrev inD (nm : Str) (flds : List (Str × PyData)) : PyData := .dict ((.bool true, .str nm) :: flds.map fun z => (PyData.str z.1, z.2))
def dkD : Dk → PyData
  | .k => .int 0
  | .t => .int 1
  | .n => .int 2
abbrev udD (t : Dk) (kvs : List (PyData × PyData)) : PyData := .dict ((.bool false, dkD t) :: kvs)
abbrev xcD (nm : Str) (flds : List (Str × PyData)) : PyData := .dict ((.none, .str nm) :: flds.map fun z => (PyData.str z.1, z.2))
mutual
inductive Dn (K : PySem.W.Frag) (G : Rg) (H : Hp) : V → PyData → Prop
  | non : Dn K G H .non .none
  | bl (b : Bool) : Dn K G H (.bl b) (.bool b)
  | int (i : Int) : Dn K G H (.int i) (.int i)
  | str (x : Str) : Dn K G H (.str x) (.str x)
  | lst {a : Addr} {xs : List V} {ds : List PyData} : LsR K G a xs → DnA K G H xs ds → Dn K G H (.ref a) (.list ds)
  | tup {a : Addr} {xs : List V} {ds : List PyData} : H a = some (.tup xs) → DnA K G H xs ds → Dn K G H (.ref a) (.tuple ds)
  | dct {a : Addr} {o : HO} {t : Dk} {vs : List V} {kvs : List (PyData × PyData)} : (∃ ob, G a (.frz ob o)) → DcO t a o (kvs.map (·.1)) vs → DnA K G H vs (kvs.map (·.2)) → Dn K G H (.ref a) (.dict kvs)
  | exc {a dd : Addr} {nm : Str} {fs : List (Str × V)} {flds : List (Str × PyData)} : G a (XvO K nm (some dd) a) → G dd (.xd fs) → fs.map (·.1) = flds.map (·.1) → DnA K G H (fs.map (·.2)) (flds.map (·.2)) → Dn K G H (.ref a) (xcD nm flds)
  | exc0 {a : Addr} {nm : Str} : G a (XvO K nm none a) → Dn K G H (.ref a) (xcD nm [])
  | ins {a dx : Addr} {nm : Str} {fs : List (Str × V)} {flds : List (Str × PyData)} : G a (.ins (He.ga K nm) dx fs) → G dx (.own a) → fs.map (·.1) = flds.map (·.1) → DnA K G H (fs.map (·.2)) (flds.map (·.2)) → Dn K G H (.ref a) (inD nm flds)
  | dcu {a : Addr} {o : HO} {t : Dk} {vs : List V} {kvs : List (PyData × PyData)} : G a o → DcO t a o (kvs.map (·.1)) vs → DnA K G H vs (kvs.map (·.2)) → Dn K G H (.ref a) (udD t kvs)
inductive DnA (K : PySem.W.Frag) (G : Rg) (H : Hp) : List V → List PyData → Prop
  | nil : DnA K G H [] []
  | cons {v : V} {vs : List V} {d : PyData} {ds : List PyData} : Dn K G H v d → DnA K G H vs ds → DnA K G H (v :: vs) (d :: ds)
end
def TupLe (H H' : Hp) : Prop := ∀ a xs, H a = some (.tup xs) → H' a = some (.tup xs)
theorem TupLe.rf (H : Hp) : TupLe H H := fun _ _ h => h
theorem TupLe.tr {H H1 H2 : Hp} (a : TupLe H H1) (b : TupLe H1 H2) : TupLe H H2 := fun c xs h => b c xs (a c xs h)
def RgLe (G G' : Rg) : Prop := ∀ a o, G a o → G' a o
theorem LsR.mono {K : PySem.W.Frag} {G G' : Rg} {a : Addr} {xs : List V} (h : LsR K G a xs) (g : RgLe G G') : LsR K G' a xs := by
  rcases h with h | ⟨o, h⟩ | h
  · exact .inl (g _ _ h)
  · exact .inr (.inl ⟨o, g _ _ h⟩)
  · exact .inr (.inr h)
mutual
theorem Dn.mono {K : PySem.W.Frag} {G G' : Rg} {H H' : Hp} (g : RgLe G G') (t : TupLe H H') : ∀ {v : V} {d : PyData}, Dn K G H v d → Dn K G' H' v d
  | _, _, .non => .non
  | _, _, .bl b => .bl b
  | _, _, .int i => .int i
  | _, _, .str x => .str x
  | _, _, .lst h a => .lst (h.mono g) (DnA.mono g t a)
  | _, _, .tup h a => .tup (t _ _ h) (DnA.mono g t a)
  | _, _, .dct h c a => .dct (h.imp fun _ z => g _ _ z) c (DnA.mono g t a)
  | _, _, .exc h1 h2 e a => .exc (g _ _ h1) (g _ _ h2) e (DnA.mono g t a)
  | _, _, .exc0 h => .exc0 (g _ _ h)
  | _, _, .ins h1 h2 e a => .ins (g _ _ h1) (g _ _ h2) e (DnA.mono g t a)
  | _, _, .dcu h c a => .dcu (g _ _ h) c (DnA.mono g t a)
theorem DnA.mono {K : PySem.W.Frag} {G G' : Rg} {H H' : Hp} (g : RgLe G G') (t : TupLe H H') : ∀ {vs : List V} {ds : List PyData}, DnA K G H vs ds → DnA K G' H' vs ds
  | _, _, .nil => .nil
  | _, _, .cons h a => .cons (Dn.mono g t h) (DnA.mono g t a)
end
def flat : PyData → Bool
  | .none => true
  | .bool _ => true
  | .int _ => true
  | .str _ => true
  | .tuple xs => flatA xs
  | _ => false
where flatA : List PyData → Bool
  | [] => true
  | d :: ds => flat d && flatA ds
mutual
theorem Dn.free {K : PySem.W.Frag} {G G' : Rg} {H : Hp} : ∀ {v : V} {d : PyData}, Dn K G H v d → flat d = true → Dn K G' H v d
  | _, _, .non, _ => .non
  | _, _, .bl b, _ => .bl b
  | _, _, .int i, _ => .int i
  | _, _, .str x, _ => .str x
  | _, _, .lst _ _, h => by simp [flat] at h
  | _, _, .tup h a, f => .tup h (DnA.free a (by simpa [flat] using f))
  | _, _, .dct _ _ _, h => by simp [flat] at h
  | _, _, .exc _ _ _ _, h => by simp [flat] at h
  | _, _, .exc0 _, h => by simp [flat] at h
  | _, _, .ins _ _ _ _, h => by simp [flat] at h
  | _, _, .dcu _ _ _, h => by simp [flat] at h
theorem DnA.free {K : PySem.W.Frag} {G G' : Rg} {H : Hp} : ∀ {vs : List V} {ds : List PyData}, DnA K G H vs ds → flat.flatA ds = true → DnA K G' H vs ds
  | _, _, .nil, _ => .nil
  | _, _, .cons h a, f => by
    simp only [flat.flatA, Bool.and_eq_true] at f
    exact .cons (Dn.free h f.1) (DnA.free a f.2)
end
theorem DnA.length {K : PySem.W.Frag} {G : Rg} {H : Hp} : ∀ {vs : List V} {ds : List PyData}, DnA K G H vs ds → vs.length = ds.length
  | _, _, .nil => rfl
  | _, _, .cons _ a => by simp [a.length]
theorem DnA.get {K : PySem.W.Frag} {G : Rg} {H : Hp} : ∀ {vs : List V} {ds : List PyData} {i : Nat} {v : V}, DnA K G H vs ds → vs[i]? = some v → ∃ d, ds[i]? = some d ∧ Dn K G H v d
  | _, _, _, _, .nil, e => by simp at e
  | _, _, 0, _, .cons h _, e => by simp at e; subst e; exact ⟨_, rfl, h⟩
  | _, _, i + 1, v, .cons _ a, e => by
    obtain ⟨d, h1, h2⟩ := DnA.get (i := i) (v := v) a (by simpa using e)
    exact ⟨d, by simpa using h1, h2⟩
theorem DnA.get' {K : PySem.W.Frag} {G : Rg} {H : Hp} : ∀ {vs : List V} {ds : List PyData} {i : Nat} {d : PyData}, DnA K G H vs ds → ds[i]? = some d → ∃ v, vs[i]? = some v ∧ Dn K G H v d
  | _, _, _, _, .nil, e => by simp at e
  | _, _, 0, _, .cons h _, e => by simp at e; subst e; exact ⟨_, rfl, h⟩
  | _, _, i + 1, v, .cons _ a, e => by
    obtain ⟨d, h1, h2⟩ := DnA.get' (i := i) (d := v) a (by simpa using e)
    exact ⟨d, by simpa using h1, h2⟩
theorem DnA.append {K : PySem.W.Frag} {G : Rg} {H : Hp} : ∀ {vs ws : List V} {ds es : List PyData}, DnA K G H vs ds → DnA K G H ws es → DnA K G H (vs ++ ws) (ds ++ es)
  | _, _, _, _, .nil, b => b
  | _, _, _, _, .cons h a, b => .cons h (DnA.append a b)
theorem DnA.drop {K : PySem.W.Frag} {G : Rg} {H : Hp} : ∀ {vs : List V} {ds : List PyData} (n : Nat), DnA K G H vs ds → DnA K G H (vs.drop n) (ds.drop n)
  | _, _, 0, a => a
  | _, _, _ + 1, .nil => .nil
  | _, _, n + 1, .cons _ a => DnA.drop n a
theorem DnA.take {K : PySem.W.Frag} {G : Rg} {H : Hp} : ∀ {vs : List V} {ds : List PyData} (n : Nat), DnA K G H vs ds → DnA K G H (vs.take n) (ds.take n)
  | _, _, 0, _ => .nil
  | _, _, _ + 1, .nil => .nil
  | _, _, n + 1, .cons h a => .cons h (DnA.take n a)
theorem DnA.set {K : PySem.W.Frag} {G : Rg} {H : Hp} {v : V} {d : PyData} (h : Dn K G H v d) : ∀ {vs : List V} {ds : List PyData} (i : Nat), DnA K G H vs ds → DnA K G H (vs.set i v) (ds.set i d)
  | _, _, _, .nil => .nil
  | _, _, 0, .cons _ a => .cons h a
  | _, _, i + 1, .cons q a => .cons q (DnA.set h i a)
theorem DnA.reverse {K : PySem.W.Frag} {G : Rg} {H : Hp} : ∀ {vs : List V} {ds : List PyData}, DnA K G H vs ds → DnA K G H vs.reverse ds.reverse
  | _, _, .nil => .nil
  | _, _, .cons h a => by
    rw [List.reverse_cons, List.reverse_cons]
    exact DnA.append (DnA.reverse a) (.cons h .nil)
theorem dn_int {K : PySem.W.Frag} {G : Rg} {H : Hp} {v : V} {i : Int} (h : Dn K G H v (.int i)) : v = .int i := by cases h; rfl
theorem dn_bool {K : PySem.W.Frag} {G : Rg} {H : Hp} {v : V} {b : Bool} (h : Dn K G H v (.bool b)) : v = .bl b := by cases h; rfl
theorem dn_str {K : PySem.W.Frag} {G : Rg} {H : Hp} {v : V} {x : Str} (h : Dn K G H v (.str x)) : v = .str x := by cases h; rfl
theorem dn_none {K : PySem.W.Frag} {G : Rg} {H : Hp} {v : V} (h : Dn K G H v .none) : v = .non := by cases h; rfl
theorem dn_list {K : PySem.W.Frag} {G : Rg} {H : Hp} {v : V} {ds : List PyData} (h : Dn K G H v (.list ds)) : ∃ a xs, v = .ref a ∧ LsR K G a xs ∧ DnA K G H xs ds := by
  cases h with | lst h a => exact ⟨_, _, rfl, h, a⟩
theorem dn_tupleH {K : PySem.W.Frag} {G : Rg} {H : Hp} {v : V} {ds : List PyData} (h : Dn K G H v (.tuple ds)) : ∃ a xs, v = .ref a ∧ H a = some (.tup xs) ∧ DnA K G H xs ds := by
  cases h with | tup h a => exact ⟨_, _, rfl, h, a⟩
theorem dn_tuple {K : PySem.W.Frag} {G : Rg} {H : Hp} {v : V} {ds : List PyData} (h : Dn K G H v (.tuple ds)) : ∃ a xs, v = .ref a ∧ SqT K H a xs ∧ DnA K G H xs ds := by
  cases h with | tup h a => exact ⟨_, _, rfl, SqT.of h, a⟩
theorem dna_ints {K : PySem.W.Frag} {G : Rg} {H : Hp} : ∀ {ns : List Int} {vs : List V}, DnA K G H vs (ns.map PyData.int) → vs = ns.map V.int
  | [], _, .nil => rfl
  | n :: ns, _, .cons h a => by rw [dn_int h, dna_ints a]; rfl
theorem dna_strs {K : PySem.W.Frag} {G : Rg} {H : Hp} : ∀ {ns : List Str} {vs : List V}, DnA K G H vs (ns.map PyData.str) → vs = ns.map V.str
  | [], _, .nil => rfl
  | n :: ns, _, .cons h a => by rw [dn_str h, dna_strs a]; rfl
theorem dna_bools {K : PySem.W.Frag} {G : Rg} {H : Hp} : ∀ {ns : List Bool} {vs : List V}, DnA K G H vs (ns.map PyData.bool) → vs = ns.map V.bl
  | [], _, .nil => rfl
  | n :: ns, _, .cons h a => by rw [dn_bool h, dna_bools a]; rfl
theorem ints_dna {K : PySem.W.Frag} {G : Rg} {H : Hp} : ∀ (ns : List Int), DnA K G H (ns.map V.int) (ns.map PyData.int)
  | [] => .nil
  | n :: ns => .cons (.int n) (ints_dna ns)
theorem strs_dna {K : PySem.W.Frag} {G : Rg} {H : Hp} : ∀ (ns : List Str), DnA K G H (ns.map V.str) (ns.map PyData.str)
  | [] => .nil
  | n :: ns => .cons (.str n) (strs_dna ns)
abbrev RgH (H : Hp) : Rg := fun a o => H a = some o
theorem LsR.sq {K : PySem.W.Frag} {H : Hp} {a : Addr} {xs : List V} (h : LsR K (RgH H) a xs) : SqL K H a xs := by
  rcases h with h | ⟨o, h⟩ | h
  · exact .inl (.inl h)
  · exact .inl (.inr ⟨o, h⟩)
  · rcases h with (h | ⟨o, h⟩) | h
    · cases h
    · cases h
    · exact .inr h
theorem LsR.of_sq {K : PySem.W.Frag} {H : Hp} {a : Addr} {xs : List V} (h : SqL K H a xs) : LsR K (RgH H) a xs := by
  rcases h with (h | ⟨o, h⟩) | h
  · exact .inl h
  · exact .inr (.inl ⟨o, h⟩)
  · exact .inr (.inr (.inr h))
mutual
theorem Dn.dp {K : PySem.W.Frag} {H : Hp} : ∀ {v : V} {d : PyData}, Dn K (RgH H) H v d → d.canLay0 = true → Dp K H v d
  | _, _, .non, _ => .non
  | _, _, .bl b, _ => .bl b
  | _, _, .int i, _ => .int i
  | _, _, .str x, _ => .str x
  | _, _, .lst h a, c => .lst h.sq (DnA.dp a (by rw [PyData.canLay0] at c; exact c))
  | _, _, .tup h a, c => .tup (SqT.of h) (DnA.dp a (by rw [PyData.canLay0] at c; exact c))
  | _, _, .dct _ _ _, c => by rw [PyData.canLay0] at c; cases c
  | _, _, .exc _ _ _ _, c => by rw [PyData.canLay0] at c; cases c
  | _, _, .exc0 _, c => by rw [PyData.canLay0] at c; cases c
  | _, _, .ins _ _ _ _, c => by rw [PyData.canLay0] at c; cases c
  | _, _, .dcu _ _ _, c => by rw [PyData.canLay0] at c; cases c
theorem DnA.dp {K : PySem.W.Frag} {H : Hp} : ∀ {vs : List V} {ds : List PyData}, DnA K (RgH H) H vs ds → PyData.canLayAll0 ds = true → DpAll K H vs ds
  | _, _, .nil, _ => .nil
  | _, _, .cons h a, c => by
    rw [PyData.canLayAll0, Bool.and_eq_true] at c
    exact .cons (Dn.dp h c.1) (DnA.dp a c.2)
end
theorem Dn.dps {K : PySem.W.Frag} {H : Hp} {v : V} {d : PyData} (h : Dn K (RgH H) H v d) (c : SeqAt.shaped d = true) : Dp K H v d := h.dp (SeqAt.canLay_of_shaped c)
structure Gh where
  H0 : Hp
  P : List Addr
  I : Nat → Option V
  N : Hp
  E : Hp
abbrev RgN (G : Gh) : Rg := fun a o => G.N a = some o
def RgA (G : Gh) : Rg := fun a o => G.N a = some o ∨ (G.H0 a = some o ∧ a ∉ G.P)
def rg (G : Gh) : Bool → Rg
  | true => RgN G
  | false => RgA G
structure Wf (G : Gh) (H : Hp) : Prop where
  keep : ∀ a o, G.H0 a = some o → a ∉ G.P → H a = some o
  new : ∀ a o, G.N a = some o → H a = some o ∧ True
  pal : ∀ a, a ∈ G.P → H a ≠ none
  p0 : ∀ a, a ∈ G.P → G.H0 a ≠ none
  ex : ∀ a o, G.E a = some o → H a = some o ∧ G.N a = none ∧ G.H0 a = none ∧ a ∉ G.P
  iv : ∀ i p, G.I i = some (.ref p) → p ∈ G.P ∨ G.E p ≠ none ∨ ∃ xs, H p = some (.tup xs)
theorem Wf.rgl {G : Gh} {H : Hp} (w : Wf G H) (fr : Bool) : RgLe (rg G fr) (RgH H) := fun a o h => by
  cases fr with
  | true => exact (w.new a o h).1
  | false =>
    rcases h with h | ⟨h1, h2⟩
    · exact (w.new a o h).1
    · exact w.keep a o h1 h2
theorem Wf.dn {K : PySem.W.Frag} {G : Gh} {H : Hp} {fr : Bool} {v : V} {d : PyData} (w : Wf G H) (h : Dn K (rg G fr) H v d) : Dn K (RgH H) H v d := h.mono (w.rgl fr) (TupLe.rf _)
theorem rg_ff (G : Gh) (fr : Bool) : RgLe (rg G fr) (rg G false) := fun a o h => by
  cases fr with
  | true => exact .inl h
  | false => exact h
structure Ext (G : Gh) (H : Hp) (G' : Gh) (H' : Hp) : Prop where
  h0 : G'.H0 = G.H0
  p : G'.P = G.P
  i : G'.I = G.I
  e : G'.E = G.E
  n : ∀ a o, G.N a = some o → G'.N a = some o
  nn : ∀ a o, G'.N a = some o → G.N a = some o ∨ G.H0 a = none
  t : TupLe H H'
  w : Wf G' H'
theorem Ext.rf {G : Gh} {H : Hp} (w : Wf G H) : Ext G H G H := ⟨rfl, rfl, rfl, rfl, fun _ _ h => h, fun _ _ h => .inl h, TupLe.rf _, w⟩
theorem Ext.tr {G G1 G2 : Gh} {H H1 H2 : Hp} (a : Ext G H G1 H1) (b : Ext G1 H1 G2 H2) : Ext G H G2 H2 :=
  ⟨b.h0.trans a.h0, b.p.trans a.p, b.i.trans a.i, b.e.trans a.e, fun c o h => b.n c o (a.n c o h), fun c o h => (b.nn c o h).elim (a.nn c o) (fun z => .inr (by rw [← a.h0]; exact z)), a.t.tr b.t, b.w⟩
theorem Ext.rgl {G G' : Gh} {H H' : Hp} (e : Ext G H G' H') (fr : Bool) : RgLe (rg G fr) (rg G' fr) := fun a o h => by
  cases fr with
  | true => exact e.n a o h
  | false =>
    rcases h with h | ⟨h1, h2⟩
    · exact .inl (e.n a o h)
    · exact .inr ⟨by rw [e.h0]; exact h1, by rw [e.p]; exact h2⟩
theorem Ext.dn {K : PySem.W.Frag} {G G' : Gh} {H H' : Hp} {fr : Bool} {v : V} {d : PyData} (e : Ext G H G' H') (h : Dn K (rg G fr) H v d) : Dn K (rg G' fr) H' v d := h.mono (e.rgl fr) e.t
theorem Ext.dna {K : PySem.W.Frag} {G G' : Gh} {H H' : Hp} {fr : Bool} {v : List V} {d : List PyData} (e : Ext G H G' H') (h : DnA K (rg G fr) H v d) : DnA K (rg G' fr) H' v d := h.mono (e.rgl fr) e.t
structure Le (G : Gh) (H : Hp) (G' : Gh) (H' : Hp) : Prop where
  h0 : G'.H0 = G.H0
  p : G'.P = G.P
  n : ∀ a o, G.N a = some o → G'.N a = some o
  nn : ∀ a o, G'.N a = some o → G.N a = some o ∨ G.H0 a = none
  t : TupLe H H'
  w : Wf G' H'
  e : ∀ a o, G.E a = some o → G'.E a = some o
theorem Ext.le {G G' : Gh} {H H' : Hp} (e : Ext G H G' H') : Le G H G' H' := ⟨e.h0, e.p, e.n, e.nn, e.t, e.w, fun a o h => by rw [e.e]; exact h⟩
theorem Le.tr {G G1 G2 : Gh} {H H1 H2 : Hp} (a : Le G H G1 H1) (b : Le G1 H1 G2 H2) : Le G H G2 H2 := ⟨b.h0.trans a.h0, b.p.trans a.p, fun c o h => b.n c o (a.n c o h), fun c o h => (b.nn c o h).elim (a.nn c o) (fun z => .inr (by rw [← a.h0]; exact z)), a.t.tr b.t, b.w, fun c o h => b.e c o (a.e c o h)⟩
theorem Le.rgl {G G' : Gh} {H H' : Hp} (e : Le G H G' H') (fr : Bool) : RgLe (rg G fr) (rg G' fr) := fun a o h => by
  cases fr with
  | true => exact e.n a o h
  | false =>
    rcases h with h | ⟨h1, h2⟩
    · exact .inl (e.n a o h)
    · exact .inr ⟨by rw [e.h0]; exact h1, by rw [e.p]; exact h2⟩
theorem Le.dna {K : PySem.W.Frag} {G G' : Gh} {H H' : Hp} {fr : Bool} {v : List V} {d : List PyData} (e : Le G H G' H') (h : DnA K (rg G fr) H v d) : DnA K (rg G' fr) H' v d := h.mono (e.rgl fr) e.t
abbrev Fd := List Int × Int × Int
def fdK (l : Addr) (t s : Int) : List (Key × V) := [(.inr "cells", .ref l), (.inr "turn", .int t), (.inr "seed", .int s)]
inductive Tre where
  | d (x : PyData)
  | lst (ts : List Tre)
  | tup (ts : List Tre)
  | dic (t : Dk) (ks : List PyData) (ts : List Tre)
  | ins (nm : Str) (fs : List Str) (ts : List Tre)
mutual
inductive TreOk (K : PySem.W.Frag) (G : Rg) (H : Hp) : V → List Addr → Tre → Prop
  | d {v : V} {x : PyData} : Dn K G H v x → TreOk K G H v [] (.d x)
  | lst {p : Addr} {vs : List V} {fp : List Addr} {ts : List Tre} : H p = some (.lst vs) → TresOk K G H vs fp ts → p ∉ fp → TreOk K G H (.ref p) (p :: fp) (.lst ts)
  | tup {p : Addr} {vs : List V} {fp : List Addr} {ts : List Tre} : H p = some (.tup vs) → TresOk K G H vs fp ts → TreOk K G H (.ref p) fp (.tup ts)
  | dic {p : Addr} {o : HO} {t : Dk} {ks : List PyData} {vs : List V} {fp : List Addr} {ts : List Tre} : H p = some o → DcO t p o ks vs → TresOk K G H vs fp ts → p ∉ fp → TreOk K G H (.ref p) (p :: fp) (.dic t ks ts)
  | ins {p dx : Addr} {nm : Str} {fs : List (Str × V)} {fp : List Addr} {ts : List Tre} : H p = some (.ins (He.ga K nm) dx fs) → H dx = some (.own p) → p ≠ dx → TresOk K G H (fs.map (·.2)) fp ts → p ∉ fp → dx ∉ fp → TreOk K G H (.ref p) (p :: dx :: fp) (.ins nm (fs.map (·.1)) ts)
inductive TresOk (K : PySem.W.Frag) (G : Rg) (H : Hp) : List V → List Addr → List Tre → Prop
  | nil : TresOk K G H [] [] []
  | cons {v : V} {vs : List V} {f1 f2 : List Addr} {t : Tre} {ts : List Tre} : TreOk K G H v f1 t → TresOk K G H vs f2 ts → (∀ p ∈ f1, p ∉ f2) → TresOk K G H (v :: vs) (f1 ++ f2) (t :: ts)
end
mutual
theorem TreOk.mono {K : PySem.W.Frag} {G G' : Rg} {H H' : Hp} (g : RgLe G G') (t : TupLe H H') : ∀ {v : V} {fp : List Addr} {T : Tre}, TreOk K G H v fp T → (∀ a ∈ fp, H' a = H a) → TreOk K G' H' v fp T
  | _, _, _, .d h, _ => .d (h.mono g t)
  | _, _, _, .lst h a n, k => .lst (by rw [k _ (by simp)]; exact h) (TresOk.mono g t a fun q hq => k q (by simp [hq])) n
  | _, _, _, .tup h a, k => .tup (t _ _ h) (TresOk.mono g t a k)
  | _, _, _, .dic h c a n, k => .dic (by rw [k _ (by simp)]; exact h) c (TresOk.mono g t a fun q hq => k q (by simp [hq])) n
  | _, _, _, .ins h1 h2 ne a n1 n2, k => .ins (by rw [k _ (by simp)]; exact h1) (by rw [k _ (by simp)]; exact h2) ne (TresOk.mono g t a fun q hq => k q (by simp [hq])) n1 n2
theorem TresOk.mono {K : PySem.W.Frag} {G G' : Rg} {H H' : Hp} (g : RgLe G G') (t : TupLe H H') : ∀ {vs : List V} {fp : List Addr} {ts : List Tre}, TresOk K G H vs fp ts → (∀ a ∈ fp, H' a = H a) → TresOk K G' H' vs fp ts
  | _, _, _, .nil, _ => .nil
  | _, _, _, .cons h a n, k => .cons (TreOk.mono g t h fun q hq => k q (by simp [hq])) (TresOk.mono g t a fun q hq => k q (by simp [hq])) n
end
def Nt (H : Hp) (p : Addr) : Prop := ∃ o, H p = some o ∧ (∀ xs, o ≠ .tup xs) ∧ ∀ x y, o ≠ .frz x y
theorem DcO.nt {t : Dk} {a : Addr} {o : HO} {ks : List PyData} {vs : List V} (h : DcO t a o ks vs) : (∀ xs, o ≠ .tup xs) ∧ ∀ x y, o ≠ .frz x y := by
  cases t with
  | k => obtain ⟨_, rfl, _⟩ := h; exact ⟨fun _ z => (nomatch z), fun _ _ z => (nomatch z)⟩
  | t => obtain ⟨_, rfl, _⟩ := h; exact ⟨fun _ z => (nomatch z), fun _ _ z => (nomatch z)⟩
  | n => obtain ⟨_, _, rfl, _⟩ := h; exact ⟨fun _ z => (nomatch z), fun _ _ z => (nomatch z)⟩
mutual
theorem TreOk.nt {K : PySem.W.Frag} {G : Rg} {H : Hp} : ∀ {v : V} {fp : List Addr} {T : Tre}, TreOk K G H v fp T → ∀ p ∈ fp, Nt H p
  | _, _, _, .d h, p, hp => by cases hp
  | _, _, _, .lst h a n, p, hp => by
    rcases List.mem_cons.mp hp with rfl | hp
    · exact ⟨_, h, fun _ z => (nomatch z), fun _ _ z => (nomatch z)⟩
    · exact TresOk.nt a p hp
  | _, _, _, .tup h a, p, hp => TresOk.nt a p hp
  | _, _, _, .dic h c a n, p, hp => by
    rcases List.mem_cons.mp hp with rfl | hp
    · exact ⟨_, h, c.nt.1, c.nt.2⟩
    · exact TresOk.nt a p hp
  | _, _, _, .ins h1 h2 ne a n1 n2, p, hp => by
    rcases List.mem_cons.mp hp with rfl | hp
    · exact ⟨_, h1, fun _ z => (nomatch z), fun _ _ z => (nomatch z)⟩
    · rcases List.mem_cons.mp hp with rfl | hp
      · exact ⟨_, h2, fun _ z => (nomatch z), fun _ _ z => (nomatch z)⟩
      · exact TresOk.nt a p hp
theorem TresOk.nt {K : PySem.W.Frag} {G : Rg} {H : Hp} : ∀ {vs : List V} {fp : List Addr} {ts : List Tre}, TresOk K G H vs fp ts → ∀ p ∈ fp, Nt H p
  | _, _, _, .nil, p, hp => by cases hp
  | _, _, _, .cons h a n, p, hp => by
    rcases List.mem_append.mp hp with hp | hp
    · exact TreOk.nt h p hp
    · exact TresOk.nt a p hp
end
mutual
def trD : Tre → Option PyData
  | .d x => some x
  | .lst ts => (trDs ts).map PyData.list
  | .tup ts => (trDs ts).map PyData.tuple
  | .dic t ks ts => (trDs ts).map fun ds => udD t (ks.zip ds)
  | .ins nm fs ts => (trDs ts).map fun ds => inD nm (fs.zip ds)
def trDs : List Tre → Option (List PyData)
  | [] => some []
  | t :: ts => (trD t).bind fun d => (trDs ts).map (d :: ·)
end
theorem TresOk.len1 {K : PySem.W.Frag} {G : Rg} {H : Hp} : ∀ {vs : List V} {fp : List Addr} {ts : List Tre}, TresOk K G H vs fp ts → vs.length = ts.length
  | _, _, _, .nil => rfl
  | _, _, _, .cons _ a _ => by simp [TresOk.len1 a]
theorem trDs_len : ∀ {ts : List Tre} {ds : List PyData}, trDs ts = some ds → ts.length = ds.length
  | [], _, h => by rw [trDs] at h; cases h; rfl
  | t :: ts, ds, h => by
    rw [trDs] at h
    cases q : trD t with
    | none => rw [q] at h; cases h
    | some d =>
      rw [q] at h
      have h : (trDs ts).map (d :: ·) = some ds := h
      cases q2 : trDs ts with
      | none => rw [q2] at h; cases h
      | some es =>
        rw [q2] at h
        cases h
        simp [trDs_len q2]
theorem DcO.len {t : Dk} {a : Addr} {o : HO} {ks : List PyData} {vs : List V} (h : DcO t a o ks vs) : ks.length = vs.length := by
  cases t with
  | k => obtain ⟨kvs, _, rfl, rfl⟩ := h; simp
  | t => obtain ⟨kvs, _, rfl, rfl⟩ := h; simp
  | n =>
    obtain ⟨rs, kds, _, e, _, rfl, rfl⟩ := h
    have e : kds.length = rs.length := by have := congrArg List.length e; simpa using this
    have l1 : ∀ l : List PyData, (l.flatMap fun d => [d, PyData.none]).length = 2 * l.length := fun l => by
      induction l with
      | nil => rfl
      | cons x r ih => simp [ih]; omega
    have l2 : ∀ l : List (NestedKey × Addr × V), (l.flatMap fun r => [r.2.2, V.ref r.2.1]).length = 2 * l.length := fun l => by
      induction l with
      | nil => rfl
      | cons x r ih => simp [ih]; omega
    show (PyData.none :: _).length = (V.non :: _).length
    rw [List.length_cons, List.length_cons, l1, l2, e]
theorem zip_fst {α β : Type} {xs : List α} {ys : List β} (h : xs.length = ys.length) : (xs.zip ys).map (·.1) = xs := List.map_fst_zip (Nat.le_of_eq h)
theorem zip_snd {α β : Type} {xs : List α} {ys : List β} (h : xs.length = ys.length) : (xs.zip ys).map (·.2) = ys := List.map_snd_zip (Nat.le_of_eq h.symm)
mutual
theorem TreOk.dn {K : PySem.W.Frag} {G G' : Rg} {H : Hp} (g : RgLe G G') : ∀ {v : V} {fp : List Addr} {T : Tre}, TreOk K G H v fp T → (∀ a ∈ fp, ∀ o, H a = some o → G' a o) → ∀ d, trD T = some d → Dn K G' H v d
  | _, _, _, .d h, _, d, e => by
    rw [trD] at e
    cases e
    exact h.mono g (TupLe.rf _)
  | _, _, _, .lst (ts := ts) h a n, k, d, e => by
    rw [trD] at e
    cases q : trDs ts with
    | none => rw [q] at e; cases e
    | some ds =>
      rw [q] at e
      cases e
      exact .lst (.inl (k _ (by simp) _ h)) (TresOk.dn g a (fun x hx => k x (by simp [hx])) ds q)
  | _, _, _, .tup (ts := ts) h a, k, d, e => by
    rw [trD] at e
    cases q : trDs ts with
    | none => rw [q] at e; cases e
    | some ds =>
      rw [q] at e
      cases e
      exact .tup h (TresOk.dn g a k ds q)
  | _, _, _, .dic (ks := ks) (ts := ts) h c a n, k, d, e => by
    rw [trD] at e
    cases q : trDs ts with
    | none => rw [q] at e; cases e
    | some ds =>
      rw [q] at e
      cases e
      have hl : ks.length = ds.length := by rw [c.len, a.len1, trDs_len q]
      exact .dcu (k _ (by simp) _ h) (by rw [zip_fst hl]; exact c) (by rw [zip_snd hl]; exact TresOk.dn g a (fun x hx => k x (by simp [hx])) ds q)
  | _, _, _, .ins (fs := fs) (ts := ts) h1 h2 ne a n1 n2, k, d, e => by
    rw [trD] at e
    cases q : trDs ts with
    | none => rw [q] at e; cases e
    | some ds =>
      rw [q] at e
      cases e
      have hl : (fs.map (·.1)).length = ds.length := by
        have := a.len1
        rw [List.length_map] at this ⊢
        rw [this, trDs_len q]
      exact .ins (k _ (by simp) _ h1) (k _ (by simp) _ h2) (by rw [zip_fst hl]) (by rw [zip_snd hl]; exact TresOk.dn g a (fun x hx => k x (by simp [hx])) ds q)
theorem TresOk.dn {K : PySem.W.Frag} {G G' : Rg} {H : Hp} (g : RgLe G G') : ∀ {vs : List V} {fp : List Addr} {ts : List Tre}, TresOk K G H vs fp ts → (∀ a ∈ fp, ∀ o, H a = some o → G' a o) → ∀ ds, trDs ts = some ds → DnA K G' H vs ds
  | _, _, _, .nil, _, ds, e => by rw [trDs] at e; cases e; exact .nil
  | _, _, _, .cons (t := t) (ts := ts) h a n, k, ds, e => by
    rw [trDs] at e
    cases q : trD t with
    | none => rw [q] at e; cases e
    | some d =>
      rw [q] at e
      have e : (trDs ts).map (d :: ·) = some ds := e
      cases q2 : trDs ts with
      | none => rw [q2] at e; cases e
      | some es =>
        rw [q2] at e
        cases e
        exact .cons (TreOk.dn g h (fun x hx => k x (by simp [hx])) d q) (TresOk.dn g a (fun x hx => k x (by simp [hx])) es q2)
end
def mulT : Dk → List (PyData × List PyData) → Tre
  | .n, l => .dic .n (encK (l.map (·.1))) (.d .none :: l.flatMap fun z => [.lst (z.2.map .d), .d z.1])
  | t, l => .dic t (l.map (·.1)) (l.map fun z => .lst (z.2.map .d))
inductive Cl where
  | lst (ds : List PyData)
  | dic (t : Dk) (kvs : List (PyData × PyData))
  | feed (f : Fd)
  | tr (t : Tre)
  | mul (t : Dk) (l : List (PyData × List PyData))
def Cl.ok (K : PySem.W.Frag) (G : Rg) (H : Hp) (v : V) (fp : List Addr) : Cl → Prop
  | .lst ds => ∃ p vs, v = .ref p ∧ fp = [p] ∧ H p = some (.lst vs) ∧ DnA K G H vs ds
  | .dic t kvs => ∃ p o vs, v = .ref p ∧ fp = [p] ∧ H p = some o ∧ DcO t p o (kvs.map (·.1)) vs ∧ DnA K G H vs (kvs.map (·.2))
  | .feed f => ∃ d l, v = .ref d ∧ fp = [d, l] ∧ d ≠ l ∧ H d = some (.dK (fdK l f.2.1 f.2.2)) ∧ H l = some (.lst (f.1.map V.int))
  | .tr T => TreOk K G H v fp T ∧ ∃ p, v = .ref p ∧ (p ∈ fp ∨ ∃ xs, H p = some (.tup xs))
  | .mul t l => TreOk K G H v fp (mulT t l) ∧ ∃ p, v = .ref p ∧ (p ∈ fp ∨ ∃ xs, H p = some (.tup xs))
theorem Cl.mono {K : PySem.W.Frag} {G G' : Rg} {H H' : Hp} {v : V} {fp : List Addr} {c : Cl} (h : c.ok K G H v fp) (g : RgLe G G') (k : ∀ a ∈ fp, H' a = H a) (t : TupLe H H') : c.ok K G' H' v fp := by
  cases c with
  | lst ds =>
    obtain ⟨p, vs, rfl, rfl, h1, h2⟩ := h
    exact ⟨p, vs, rfl, rfl, by rw [k p (by simp)]; exact h1, h2.mono g t⟩
  | dic t' kvs =>
    obtain ⟨p, o, vs, rfl, rfl, h1, h2, h3⟩ := h
    exact ⟨p, o, vs, rfl, rfl, by rw [k p (by simp)]; exact h1, h2, h3.mono g t⟩
  | feed f =>
    obtain ⟨d, l, h1, h2, h3, h4, h5⟩ := h
    exact ⟨d, l, h1, h2, h3, by rw [k d (by simp [h2])]; exact h4, by rw [k l (by simp [h2])]; exact h5⟩
  | tr T =>
    obtain ⟨h1, p, h2, h3⟩ := h
    exact ⟨h1.mono g t k, p, h2, h3.imp id fun ⟨xs, z⟩ => ⟨xs, t _ _ z⟩⟩
  | mul T l =>
    obtain ⟨h1, p, h2, h3⟩ := h
    exact ⟨h1.mono g t k, p, h2, h3.imp id fun ⟨xs, z⟩ => ⟨xs, t _ _ z⟩⟩
theorem Cl.root {K : PySem.W.Frag} {G : Rg} {H : Hp} {p : Addr} {fp : List Addr} {c : Cl} (h : c.ok K G H (.ref p) fp) : p ∈ fp ∨ ∃ xs, H p = some (.tup xs) := by
  cases c with
  | lst ds =>
    obtain ⟨q, vs, h1, rfl, _⟩ := h
    cases h1; exact .inl (by simp)
  | dic t kvs =>
    obtain ⟨q, o, vs, h1, rfl, _⟩ := h
    cases h1; exact .inl (by simp)
  | feed f =>
    obtain ⟨q, l, h1, rfl, _⟩ := h
    cases h1; exact .inl (by simp)
  | tr T =>
    obtain ⟨_, q, h1, h2⟩ := h
    cases h1; exact h2
  | mul T l =>
    obtain ⟨_, q, h1, h2⟩ := h
    cases h1; exact h2
inductive Itm where
  | d (x : PyData)
  | r (k : Nat)
inductive ItsOk (K : PySem.W.Frag) (G : Rg) (H : Hp) (fp : List Addr) : List V → List Itm → Prop
  | nil : ItsOk K G H fp [] []
  | d {v : V} {x : PyData} {vs : List V} {nd : List Itm} : Dn K G H v x → ItsOk K G H fp vs nd → ItsOk K G H fp (v :: vs) (.d x :: nd)
  | r {k : Nat} {p : Addr} {vs : List V} {nd : List Itm} : fp[k]? = some p → ItsOk K G H fp vs nd → ItsOk K G H fp (.ref p :: vs) (.r k :: nd)
def PoolOk (K : PySem.W.Frag) (G : Rg) (H : Hp) (fp : List Addr) (ns : List (List Itm)) : Prop :=
  fp.length = ns.length ∧ fp.Nodup ∧ ∀ (k : Nat) (nd : List Itm), ns[k]? = some nd → ∃ p vs, fp[k]? = some p ∧ H p = some (.lst vs) ∧ ItsOk K G H fp vs nd
theorem ItsOk.mono {K : PySem.W.Frag} {G G' : Rg} {H H' : Hp} (g : RgLe G G') (t : TupLe H H') {fp : List Addr} : ∀ {vs : List V} {nd : List Itm}, ItsOk K G H fp vs nd → ItsOk K G' H' fp vs nd
  | _, _, .nil => .nil
  | _, _, .d h a => .d (h.mono g t) (ItsOk.mono g t a)
  | _, _, .r h a => .r h (ItsOk.mono g t a)
theorem PoolOk.mono {K : PySem.W.Frag} {G G' : Rg} {H H' : Hp} {fp : List Addr} {ns : List (List Itm)} (h : PoolOk K G H fp ns) (g : RgLe G G') (k : ∀ a ∈ fp, H' a = H a) (t : TupLe H H') : PoolOk K G' H' fp ns :=
  ⟨h.1, h.2.1, fun j nd e => by
    obtain ⟨p, vs, h1, h2, h3⟩ := h.2.2 j nd e
    exact ⟨p, vs, h1, by rw [k p (List.mem_of_getElem? h1)]; exact h2, h3.mono g t⟩⟩
inductive Sl where
  | un
  | dat (fr : Bool) (d : PyData)
  | own (c : Cl)
  | io (c : Cl)
  /-- a list of one's own that is walked: read, not changed -/
  | lent (c : Cl)
  /-- the list of number k of the pool at slot j -/
  | ref (j k : Nat)
  /-- a pool of lists that hold one another (at a slot that no name stands for) -/
  | pool (ns : List (List Itm))
def Sl.pl : Sl → Bool
  | .ref _ _ => true
  | .pool _ => true
  | _ => false
structure Exn where
  cls : Str
  flds : List (Str × PyData)
  st : List Sl
inductive R (α : Type) where
  | val (a : α)
  | exc (x : Exn)
  | bad
def R.bind {α β : Type} : R α → (α → R β) → R β
  | .val a, k => k a
  | .exc x, _ => .exc x
  | .bad, _ => .bad
def SlOk (K : PySem.W.Frag) (G : Gh) (H : Hp) (i : Nat) (ov : Option (Option V)) (fp : List Addr) : Sl → Prop
  | .un => fp = []
  | .dat fr d => fp = [] ∧ ∃ v, ov = some (some v) ∧ Dn K (rg G fr) H v d
  | .own c => ∃ v, ov = some (some v) ∧ (∀ p ∈ fp, G.H0 p = none) ∧ c.ok K (RgN G) H v fp
  | .io c => ∃ v, ov = some (some v) ∧ G.I i = some v ∧ c.ok K (RgN G) H v fp
  | .lent c => fp = [] ∧ ∃ p o, ov = some (some (.ref p)) ∧ G.I i = some (.ref p) ∧ H p = some o ∧ G.E p = some o ∧ (∀ xs, o ≠ .tup xs) ∧ c.ok K (RgN G) H (.ref p) [p]
  | .ref _ _ => fp = []
  | .pool ns => (∀ p ∈ fp, G.H0 p = none) ∧ PoolOk K (RgN G) H fp ns
theorem SlOk.mono {K : PySem.W.Frag} {G G' : Gh} {H H' : Hp} {i : Nat} {ov : Option (Option V)} {fp : List Addr} {s : Sl} (h : SlOk K G H i ov fp s) (e : Ext G H G' H') (k : ∀ a ∈ fp, H' a = H a) : SlOk K G' H' i ov fp s := by
  cases s with
  | un => exact h
  | dat fr d =>
    obtain ⟨h1, v, h2, h3⟩ := h
    exact ⟨h1, v, h2, e.dn h3⟩
  | own c =>
    obtain ⟨v, h2, h4, h3⟩ := h
    exact ⟨v, h2, fun p hp => by rw [e.h0]; exact h4 p hp, Cl.mono h3 e.n k e.t⟩
  | io c =>
    obtain ⟨v, h2, h4, h3⟩ := h
    exact ⟨v, h2, by rw [e.i]; exact h4, Cl.mono h3 e.n k e.t⟩
  | lent c =>
    obtain ⟨h1, p, o, h2, h3, h4, h5, h6, h7⟩ := h
    have h5' : G'.E p = some o := by rw [e.e]; exact h5
    have h4' : H' p = some o := (e.w.ex p o h5').1
    exact ⟨h1, p, o, h2, by rw [e.i]; exact h3, h4', h5', h6, Cl.mono h7 e.n (fun a ha => by
      have : a = p := by simpa using ha
      rw [this, h4, h4']) e.t⟩
  | ref j k => exact h
  | pool ns => exact ⟨fun p hp => by rw [e.h0]; exact h.1 p hp, h.2.mono e.n k e.t⟩
structure StaA (K : PySem.W.Frag) (G : Gh) (H : Hp) (σ : St) (Γ : List Sl) (A : Nat → List Addr) : Prop where
  w : Wf G H
  len : Γ.length = σ.length
  sl : ∀ i s, Γ[i]? = some s → SlOk K G H i σ[i]? (A i) s
  al : ∀ i p, p ∈ A i → H p ≠ none ∧ G.N p = none ∧ (p ∈ G.P ∨ G.H0 p = none)
  ae : ∀ i p, p ∈ A i → G.E p = none
  dj : ∀ i j p, p ∈ A i → p ∈ A j → i = j
  rf : ∀ (i j k : Nat) (ns : List (List Itm)), Γ[i]? = some (Sl.ref j k) → Γ[j]? = some (Sl.pool ns) → ∃ p, (A j)[k]? = some p ∧ σ[i]? = some (some (V.ref p))
theorem rf_set {Γ : List Sl} {σ σ' : St} {A A' : Nat → List Addr} {i : Nat} {s' : Sl} (rf : ∀ (i j k : Nat) (ns : List (List Itm)), Γ[i]? = some (Sl.ref j k) → Γ[j]? = some (Sl.pool ns) → ∃ p, (A j)[k]? = some p ∧ σ[i]? = some (some (V.ref p)))
    (hs : s'.pl = false) (hA : ∀ j, j ≠ i → A' j = A j) (hσ : ∀ j, j ≠ i → σ'[j]? = σ[j]?) : ∀ (a j k : Nat) (ns : List (List Itm)), (Γ.set i s')[a]? = some (Sl.ref j k) → (Γ.set i s')[j]? = some (Sl.pool ns) → ∃ p, (A' j)[k]? = some p ∧ σ'[a]? = some (some (V.ref p)) := fun a j k ns h1 h2 => by
  have key : ∀ (b : Nat) (x : Sl), x.pl = true → (Γ.set i s')[b]? = some x → b ≠ i ∧ Γ[b]? = some x := fun b x hx h => by
    by_cases e : b = i
    · subst e
      by_cases hl : b < Γ.length
      · rw [List.getElem?_set_self hl] at h
        cases h
        rw [hs] at hx; cases hx
      · rw [List.getElem?_eq_none (by simpa using hl)] at h; cases h
    · rw [List.getElem?_set_ne (Ne.symm e)] at h
      exact ⟨e, h⟩
  obtain ⟨n1, g1⟩ := key a _ rfl h1
  obtain ⟨n2, g2⟩ := key j _ rfl h2
  obtain ⟨p, q1, q2⟩ := rf a j k ns g1 g2
  exact ⟨p, by rw [hA j n2]; exact q1, by rw [hσ a n1]; exact q2⟩
def Sta (K : PySem.W.Frag) (G : Gh) (H : Hp) (σ : St) (Γ : List Sl) : Prop := ∃ A, StaA K G H σ Γ A
theorem Sta.w {K : PySem.W.Frag} {G : Gh} {H : Hp} {σ : St} {Γ : List Sl} (s : Sta K G H σ Γ) : Wf G H := s.elim fun _ a => a.w
structure Grow (G : Gh) (H : Hp) (N' H' : Hp) (fs : List Addr) : Prop where
  k : ∀ a o, H a = some o → a ∉ fs → H' a = some o
  al : ∀ a, a ∈ fs → H' a ≠ none
  t : TupLe H H'
  n : ∀ a o, G.N a = some o → N' a = some o
  n' : ∀ a o, N' a = some o → H' a = some o ∧ (G.N a = some o ∨ H a = none)
theorem Grow.wf {G : Gh} {H N' H' : Hp} {fs : List Addr} (g : Grow G H N' H' fs) (w : Wf G H) (hf : ∀ p ∈ fs, p ∈ G.P ∨ G.H0 p = none) (he : ∀ p ∈ fs, G.E p = none) : Wf ⟨G.H0, G.P, G.I, N', G.E⟩ H' := by
  have al : ∀ a, H a ≠ none → H' a ≠ none := fun a h => by
    by_cases hp : a ∈ fs
    · exact g.al a hp
    · cases q : H a with
      | none => exact absurd q h
      | some o => rw [g.k a o q hp]; simp
  refine ⟨fun a o h h2 => ?_, fun a o h => ?_, fun a h => al a (w.pal a h), w.p0, fun a o h => ?_, fun i p h => (w.iv i p h).imp id fun z => z.imp id fun ⟨xs, z⟩ => ⟨xs, g.t p xs z⟩⟩
  · refine g.k a o (w.keep a o h h2) fun hp => ?_
    rcases hf a hp with z | z
    · exact h2 z
    · rw [show G.H0 a = some o from h] at z; cases z
  · obtain ⟨h1, h2⟩ := g.n' a o h
    exact ⟨h1, trivial⟩
  · obtain ⟨h1, h2, h3⟩ := w.ex a o h
    refine ⟨g.k a o h1 fun hp => ?_, ?_, h3⟩
    · have h : G.E a = some o := h
      rw [he a hp] at h; cases h
    · show N' a = none
      cases q : N' a with
      | none => rfl
      | some u =>
        rcases (g.n' a u q).2 with z | z
        · rw [h2] at z; cases z
        · rw [h1] at z; cases z
theorem Wf.none0 {G : Gh} {H : Hp} (w : Wf G H) {a : Addr} (h2 : H a = none) : G.H0 a = none := by
  cases q : G.H0 a with
  | none => rfl
  | some u =>
    by_cases hp : a ∈ G.P
    · exact absurd h2 (w.pal a hp)
    · rw [w.keep a u q hp] at h2; cases h2
theorem Grow.ext {G : Gh} {H N' H' : Hp} {fs : List Addr} (g : Grow G H N' H' fs) (w : Wf G H) (hf : ∀ p ∈ fs, p ∈ G.P ∨ G.H0 p = none) (he : ∀ p ∈ fs, G.E p = none) : Ext G H ⟨G.H0, G.P, G.I, N', G.E⟩ H' :=
  ⟨rfl, rfl, rfl, rfl, g.n, fun a o h => (g.n' a o h).2.imp id fun z => w.none0 z, g.t, g.wf w hf he⟩
theorem Grow.at {G : Gh} {H N' H' : Hp} {fs : List Addr} (g : Grow G H N' H' fs) {a : Addr} (h : H a ≠ none) (hp : a ∉ fs) : H' a = H a := by
  cases q : H a with
  | none => exact absurd q h
  | some o => exact g.k a o q hp
theorem Sta.grow {K : PySem.W.Frag} {G : Gh} {H H' N' : Hp} {σ : St} {Γ : List Sl} (s : Sta K G H σ Γ) (g : Grow G H N' H' []) :
    Sta K ⟨G.H0, G.P, G.I, N', G.E⟩ H' σ Γ ∧ Ext G H ⟨G.H0, G.P, G.I, N', G.E⟩ H' := by
  obtain ⟨A, S⟩ := s
  have e := g.ext S.w (fun p hp => absurd hp (by simp)) (fun p hp => absurd hp (by simp))
  refine ⟨⟨A, e.w, S.len, fun i s h => (S.sl i s h).mono e fun a ha => g.at (S.al i a ha).1 (by simp), fun i p hp => ?_, S.ae, S.dj, S.rf⟩, e⟩
  obtain ⟨h1, h2, h3⟩ := S.al i p hp
  refine ⟨by rw [g.at h1 (by simp)]; exact h1, ?_, h3⟩
  show N' p = none
  cases q : N' p with
  | none => rfl
  | some o =>
    rcases (g.n' p o q).2 with z | z
    · rw [h2] at z; cases z
    · exact absurd z h1
theorem StaA.step {K : PySem.W.Frag} {G : Gh} {H H' N' : Hp} {σ σ' : St} {Γ : List Sl} {A : Nat → List Addr} {i : Nat} {s' : Sl} {fp' fs : List Addr} (S : StaA K G H σ Γ A) (g : Grow G H N' H' fs)
    (hfs : ∀ p ∈ fs, p ∈ A i) (hσ : ∀ j, j ≠ i → σ'[j]? = σ[j]?) (hl : σ'.length = σ.length) (sl' : i < Γ.length → SlOk K ⟨G.H0, G.P, G.I, N', G.E⟩ H' i σ'[i]? fp' s')
    (f : ∀ p ∈ fp', H' p ≠ none ∧ N' p = none ∧ (p ∈ A i ∨ H p = none)) (hpl : s'.pl = false := by first | rfl | (cases ‹Bool› <;> rfl)) :
    Sta K ⟨G.H0, G.P, G.I, N', G.E⟩ H' σ' (Γ.set i s') ∧ Ext G H ⟨G.H0, G.P, G.I, N', G.E⟩ H' := by
  have hf : ∀ p ∈ fs, p ∈ G.P ∨ G.H0 p = none := fun p hp => (S.al i p (hfs p hp)).2.2
  have he : ∀ p ∈ fs, G.E p = none := fun p hp => S.ae i p (hfs p hp)
  have e := g.ext S.w hf he
  have nf : ∀ j, j ≠ i → ∀ p, p ∈ A j → p ∉ fs := fun j hj p hp hq => hj (S.dj j i p hp (hfs p hq))
  refine ⟨⟨fun j => if j = i then fp' else A j, e.w, by rw [List.length_set, hl]; exact S.len, fun j s h => ?_, fun j p hp => ?_, fun j p hp => ?_, fun j k p hj hk => ?_, rf_set S.rf hpl (fun j hj => if_neg hj) hσ⟩, e⟩
  · by_cases hj : j = i
    · subst hj
      have hlt : j < Γ.length := by
        have := (List.getElem?_eq_some_iff.mp h).1
        simpa using this
      rw [List.getElem?_set_self hlt] at h
      cases h
      rw [if_pos rfl]
      exact sl' hlt
    · rw [List.getElem?_set_ne (Ne.symm hj)] at h
      rw [if_neg hj, hσ j hj]
      exact (S.sl j s h).mono e fun a ha => g.at (S.al j a ha).1 (nf j hj a ha)
  · by_cases hj : j = i
    · rw [if_pos hj] at hp
      obtain ⟨h1, h2, h3⟩ := f p hp
      refine ⟨h1, h2, ?_⟩
      rcases h3 with z | z
      · exact (S.al i p z).2.2
      · by_cases q : p ∈ G.P
        · exact .inl q
        · refine .inr ?_
          show G.H0 p = none
          cases r : G.H0 p with
          | none => rfl
          | some u => rw [S.w.keep p u r q] at z; cases z
    · rw [if_neg hj] at hp
      obtain ⟨h1, h2, h3⟩ := S.al j p hp
      refine ⟨by rw [g.at h1 (nf j hj p hp)]; exact h1, ?_, h3⟩
      show N' p = none
      cases q : N' p with
      | none => rfl
      | some o =>
        rcases (g.n' p o q).2 with z | z
        · rw [h2] at z; cases z
        · exact absurd z h1
  · show G.E p = none
    by_cases hj : j = i
    · rw [if_pos hj] at hp
      rcases (f p hp).2.2 with z | z
      · exact S.ae i p z
      · cases q : G.E p with
        | none => rfl
        | some u => rw [(S.w.ex p u q).1] at z; cases z
    · rw [if_neg hj] at hp
      exact S.ae j p hp
  · have key : ∀ j', j' ≠ i → p ∈ A j' → p ∈ fp' → False := fun j' hj' h1 h2 => by
      rcases (f p h2).2.2 with z | z
      · exact hj' (S.dj j' i p h1 z)
      · exact (S.al j' p h1).1 z
    by_cases hj' : j = i
    · by_cases hk' : k = i
      · rw [hj', hk']
      · rw [if_pos hj'] at hj
        rw [if_neg hk'] at hk
        exact (key k hk' hk hj).elim
    · by_cases hk' : k = i
      · rw [if_neg hj'] at hj
        rw [if_pos hk'] at hk
        exact (key j hj' hj hk).elim
      · rw [if_neg hj'] at hj
        rw [if_neg hk'] at hk
        exact S.dj j k p hj hk
theorem grow0 {G : Gh} {H : Hp} (w : Wf G H) : Grow G H G.N H [] := ⟨fun _ _ h _ => h, fun _ h => absurd h (by simp), TupLe.rf _, fun _ _ h => h, fun a o h => ⟨(w.new a o h).1, .inl h⟩⟩
theorem same_upd {H : Hp} {p : Addr} {o : HO} (h : H p = none) : Same H (upd H p o) := fun b x e => by
  rw [upd_ne (ne_of_none e h)]
  exact e
theorem tup_upd {H : Hp} {p : Addr} {o : HO} (h : H p = none) : TupLe H (upd H p o) := fun b x e => same_upd h _ _ e
theorem grow_new {G : Gh} {H : Hp} {p : Addr} {o : HO} (w : Wf G H) (h : H p = none) : Grow G H (upd G.N p o) (upd H p o) [] := by
  have hN : G.N p = none := by
    cases q : G.N p with
    | none => rfl
    | some u => rw [(w.new p u q).1] at h; cases h
  refine ⟨fun a u e _ => same_upd h a u e, fun _ h => absurd h (by simp), tup_upd h, fun a u e => same_upd hN a u e, fun a u e => ?_⟩
  by_cases ha : a = p
  · subst ha
    rw [upd_same] at e
    rw [upd_same]
    exact ⟨e, .inr h⟩
  · rw [upd_ne ha] at e
    rw [upd_ne ha]
    exact ⟨(w.new a u e).1, .inl e⟩
theorem grow_own {G : Gh} {H : Hp} {p : Addr} {o : HO} (w : Wf G H) (h : H p = none) : Grow G H G.N (upd H p o) [] :=
  ⟨fun a u e _ => same_upd h a u e, fun _ h => absurd h (by simp), tup_upd h, fun _ _ e => e, fun a u e => ⟨same_upd h a u (w.new a u e).1, .inl e⟩⟩
theorem grow_mut {G : Gh} {H : Hp} {p : Addr} {o u : HO} (w : Wf G H) (h : H p = some u) (hN : G.N p = none) (ht : ∀ xs, u ≠ .tup xs) (hz : ∀ x y, u ≠ .frz x y) : Grow G H G.N (upd H p o) [p] := by
  refine ⟨fun a x e hp => by rw [upd_ne (by simpa using hp)]; exact e, fun a ha => ?_, fun a xs e => ?_, fun _ _ e => e, fun a x e => ⟨?_, .inl e⟩⟩
  · have : a = p := by simpa using ha
    rw [this, upd_same]; simp
  · by_cases q : a = p
    · subst q; rw [h] at e; exact absurd (Option.some.inj e) (ht _)
    · rw [upd_ne q]; exact e
  · rw [upd_ne (fun q => by rw [q, hN] at e; cases e)]
    exact (w.new a x e).1
theorem set_at {α : Type} {l : List α} {i : Nat} {x : α} (h : i < l.length) : (l.set i x)[i]? = some x := List.getElem?_set_self h
theorem Wf.fresh {G : Gh} {H : Hp} {p : Addr} (w : Wf G H) (hp : H p = none) : G.N p = none ∧ G.H0 p = none ∧ p ∉ G.P := by
  have h3 : p ∉ G.P := fun z => w.pal p z hp
  refine ⟨?_, ?_, h3⟩
  · cases q : G.N p with
    | none => rfl
    | some u => rw [(w.new p u q).1] at hp; cases hp
  · cases q : G.H0 p with
    | none => rfl
    | some u => rw [w.keep p u q h3] at hp; cases hp
theorem Sta.put {K : PySem.W.Frag} {G : Gh} {H : Hp} {σ : St} {Γ : List Sl} {fr : Bool} {d : PyData} {v : V} (s : Sta K G H σ Γ) (i : Nat) (h : Dn K (rg G fr) H v d) :
    Sta K G H (σ.set i (some v)) (Γ.set i (.dat fr d)) := by
  obtain ⟨A, S⟩ := s
  refine (S.step (i := i) (fp' := []) (s' := .dat fr d) (σ' := σ.set i (some v)) (grow0 S.w) (fun p hp => absurd hp (by simp)) (fun j hj => List.getElem?_set_ne (Ne.symm hj)) (List.length_set ..) (fun hlt => ⟨rfl, v, ?_, h⟩) (fun p hp => absurd hp (by simp))).1
  exact set_at (by rw [← S.len]; exact hlt)
theorem Sta.forget {K : PySem.W.Frag} {G : Gh} {H : Hp} {σ : St} {Γ : List Sl} (s : Sta K G H σ Γ) (i : Nat) : Sta K G H σ (Γ.set i .un) := by
  obtain ⟨A, S⟩ := s
  exact (S.step (i := i) (fp' := []) (s' := .un) (σ' := σ) (grow0 S.w) (fun p hp => absurd hp (by simp)) (fun j hj => rfl) rfl (fun hlt => rfl) (fun p hp => absurd hp (by simp))).1
theorem Sta.freeze {K : PySem.W.Frag} {G : Gh} {H : Hp} {σ : St} {Γ : List Sl} {ds : List PyData} (s : Sta K G H σ Γ) (i : Nat) (hi : Γ[i]? = some (.own (.lst ds))) :
    ∃ G', Sta K G' H σ (Γ.set i (.dat true (.list ds))) ∧ Ext G H G' H := by
  obtain ⟨A, S⟩ := s
  obtain ⟨v, h1, h0, p, vs, rfl, hfp, hp, hd⟩ := S.sl i _ hi
  have hpA : p ∈ A i := by rw [hfp]; simp
  have hN : G.N p = none := (S.al i p hpA).2.1
  have h00 : G.H0 p = none := h0 p hpA
  have n1 : ∀ a o, G.N a = some o → upd G.N p (.lst vs) a = some o := fun a o e => same_upd hN a o e
  have hE : ∀ a o, G.E a = some o → upd G.N p (.lst vs) a = none := fun a o ha => by
    have z : a ≠ p := fun z => by
      have q := S.ae i p hpA
      rw [z, q] at ha
      cases ha
    rw [upd_ne z]
    exact (S.w.ex a o ha).2.1
  have e : Ext G H ⟨G.H0, G.P, G.I, upd G.N p (.lst vs), G.E⟩ H := by
    refine ⟨rfl, rfl, rfl, rfl, n1, fun a o ha => ?_, TupLe.rf _, S.w.keep, fun a o ha => ?_, S.w.pal, S.w.p0, fun a o ha => ⟨(S.w.ex a o ha).1, hE a o ha, (S.w.ex a o ha).2.2⟩, S.w.iv⟩
    · have ha : upd G.N p (.lst vs) a = some o := ha
      by_cases q : a = p
      · subst q; exact .inr h00
      · rw [upd_ne q] at ha; exact .inl ha
    have ha : upd G.N p (.lst vs) a = some o := ha
    by_cases q : a = p
    · subst q
      rw [upd_same] at ha
      cases ha
      exact ⟨hp, trivial⟩
    · rw [upd_ne q] at ha
      exact S.w.new a o ha
  refine ⟨_, ⟨fun j => if j = i then [] else A j, e.w, by rw [List.length_set]; exact S.len, fun j s h => ?_, fun j q hq => ?_, fun j q hq => ?_, fun j k q hj hk => ?_, rf_set S.rf rfl (fun j hj => if_neg hj) (fun _ _ => rfl)⟩, e⟩
  · by_cases hj : j = i
    · subst hj
      rw [List.getElem?_set_self (List.getElem?_eq_some_iff.mp hi).1] at h
      cases h
      rw [if_pos rfl]
      exact ⟨rfl, .ref p, h1, .lst (.inl upd_same) (hd.mono n1 (TupLe.rf _))⟩
    · rw [List.getElem?_set_ne (Ne.symm hj)] at h
      rw [if_neg hj]
      exact (S.sl j s h).mono e fun a ha => rfl
  · by_cases hj : j = i
    · rw [if_pos hj] at hq; cases hq
    · rw [if_neg hj] at hq
      obtain ⟨h2, h3, h4⟩ := S.al j q hq
      refine ⟨h2, ?_, h4⟩
      show upd G.N p (.lst vs) q = none
      rw [upd_ne (fun z => hj (S.dj j i q hq (by rw [z]; exact hpA)))]
      exact h3
  · by_cases hj : j = i
    · rw [if_pos hj] at hq; cases hq
    · rw [if_neg hj] at hq
      exact S.ae j q hq
  · by_cases hj' : j = i
    · rw [if_pos hj'] at hj; cases hj
    · by_cases hk' : k = i
      · rw [if_pos hk'] at hk; cases hk
      · rw [if_neg hj'] at hj
        rw [if_neg hk'] at hk
        exact S.dj j k q hj hk
theorem Sta.change {K : PySem.W.Frag} {G : Gh} {H : Hp} {σ : St} {Γ : List Sl} {ds : List PyData} (s : Sta K G H σ Γ) (i : Nat) (hi : Γ[i]? = some (.own (.lst ds))) :
    ∃ p vs, σ[i]? = some (some (.ref p)) ∧ H p = some (.lst vs) ∧ DnA K (rg G true) H vs ds ∧
      ∀ vs' ds', DnA K (rg G true) H vs' ds' → Sta K G (upd H p (.lst vs')) σ (Γ.set i (.own (.lst ds'))) ∧ Ext G H G (upd H p (.lst vs')) := by
  obtain ⟨A, S⟩ := s
  obtain ⟨v, h1, h0, p, vs, rfl, hfp, hp, hd⟩ := S.sl i _ hi
  have hpA : p ∈ A i := by rw [hfp]; simp
  have hN : G.N p = none := (S.al i p hpA).2.1
  refine ⟨p, vs, h1, hp, hd, fun vs' ds' hd' => ?_⟩
  have g : Grow G H G.N (upd H p (.lst vs')) [p] := grow_mut S.w hp hN (fun xs z => by cases z) (fun x y z => by cases z)
  refine S.step (i := i) (fp' := [p]) (s' := .own (.lst ds')) (σ' := σ) g (fun q hq => ?_) (fun j hj => rfl) rfl (fun hlt => ⟨.ref p, h1, fun q hq => ?_, p, vs', rfl, rfl, upd_same, hd'.mono (fun _ _ z => z) g.t⟩) (fun q hq => ?_)
  · have : q = p := by simpa using hq
    rw [this]; exact hpA
  · have : q = p := by simpa using hq
    rw [this]; exact h0 p hpA
  · have : q = p := by simpa using hq
    rw [this]
    exact ⟨by rw [upd_same]; simp, hN, .inl hpA⟩
theorem Sta.changeIo {K : PySem.W.Frag} {G : Gh} {H : Hp} {σ : St} {Γ : List Sl} {ds : List PyData} (s : Sta K G H σ Γ) (i : Nat) (hi : Γ[i]? = some (.io (.lst ds))) :
    ∃ p vs, σ[i]? = some (some (.ref p)) ∧ H p = some (.lst vs) ∧ DnA K (rg G true) H vs ds ∧
      ∀ vs' ds', DnA K (rg G true) H vs' ds' → Sta K G (upd H p (.lst vs')) σ (Γ.set i (.io (.lst ds'))) ∧ Ext G H G (upd H p (.lst vs')) := by
  obtain ⟨A, S⟩ := s
  obtain ⟨v, h1, h0, p, vs, rfl, hfp, hp, hd⟩ := S.sl i _ hi
  have hpA : p ∈ A i := by rw [hfp]; simp
  have hN : G.N p = none := (S.al i p hpA).2.1
  refine ⟨p, vs, h1, hp, hd, fun vs' ds' hd' => ?_⟩
  have g : Grow G H G.N (upd H p (.lst vs')) [p] := grow_mut S.w hp hN (fun xs z => by cases z) (fun x y z => by cases z)
  refine S.step (i := i) (fp' := [p]) (s' := .io (.lst ds')) (σ' := σ) g (fun q hq => ?_) (fun j hj => rfl) rfl (fun hlt => ⟨.ref p, h1, h0, p, vs', rfl, rfl, upd_same, hd'.mono (fun _ _ z => z) g.t⟩) (fun q hq => ?_)
  · have : q = p := by simpa using hq
    rw [this]; exact hpA
  · have : q = p := by simpa using hq
    rw [this]
    exact ⟨by rw [upd_same]; simp, hN, .inl hpA⟩
theorem Sta.pin {K : PySem.W.Frag} {G : Gh} {H : Hp} {σ : St} {Γ : List Sl} {D : Addr} {o : HO} (S : Sta K G H σ Γ) (hD : H D = none) : Sta K ⟨G.H0, G.P, G.I, G.N, upd G.E D o⟩ (upd H D o) σ Γ ∧ TupLe H (upd H D o) := by
  obtain ⟨A, S⟩ := S
  obtain ⟨f1, f2, f3⟩ := S.w.fresh hD
  have t := tup_upd (o := o) hD
  have nA : ∀ i, D ∉ A i := fun i h => (S.al i D h).1 hD
  have w : Wf ⟨G.H0, G.P, G.I, G.N, upd G.E D o⟩ (upd H D o) := by
    refine ⟨fun a u h h2 => same_upd hD _ _ (S.w.keep a u h h2), fun a u h => ⟨same_upd hD _ _ (S.w.new a u h).1, (S.w.new a u h).2⟩, fun a h => ?_, S.w.p0, fun a u h => ?_, fun i q h => (S.w.iv i q h).imp id fun z => z.imp (fun z => ?_) fun ⟨xs, z⟩ => ⟨xs, t q xs z⟩⟩
    rotate_left 2
    · by_cases e : q = D
      · show upd G.E D o q ≠ none
        rw [e, upd_same]; simp
      · show upd G.E D o q ≠ none
        rw [upd_ne e]; exact z
    · rw [upd_ne (show a ≠ D from fun z => f3 (z ▸ h))]
      exact S.w.pal a h
    · by_cases q : a = D
      · subst q
        have h : upd G.E a o a = some u := h
        rw [upd_same] at h ⊢
        exact ⟨h, f1, f2, f3⟩
      · have h : upd G.E D o a = some u := h
        rw [upd_ne q] at h ⊢
        exact S.w.ex a u h
  refine ⟨⟨A, w, S.len, fun i s h => ?_, fun i p h => ⟨?_, (S.al i p h).2⟩, fun i p h => ?_, S.dj, S.rf⟩, t⟩
  · have q := S.sl i s h
    cases s with
    | un => exact q
    | dat fr d =>
      obtain ⟨q1, v, q2, q3⟩ := q
      exact ⟨q1, v, q2, q3.mono (fun a o z => by cases fr <;> exact z) t⟩
    | own c =>
      obtain ⟨v, q2, q4, q3⟩ := q
      exact ⟨v, q2, q4, Cl.mono q3 (fun a o z => z) (fun a ha => upd_ne (fun z => nA i (z ▸ ha))) t⟩
    | io c =>
      obtain ⟨v, q2, q4, q3⟩ := q
      exact ⟨v, q2, q4, Cl.mono q3 (fun a o z => z) (fun a ha => upd_ne (fun z => nA i (z ▸ ha))) t⟩
    | lent c =>
      obtain ⟨q1, p, u, q2, q3, q4, q5, q6, q7⟩ := q
      have ne : p ≠ D := fun z => by rw [z, hD] at q4; cases q4
      exact ⟨q1, p, u, q2, q3, by rw [upd_ne ne]; exact q4, by show upd G.E D o p = _; rw [upd_ne ne]; exact q5, q6, Cl.mono q7 (fun a o z => z) (fun a ha => by
        have : a = p := by simpa using ha
        rw [this, upd_ne ne]) t⟩
    | ref _ _ => exact q
    | pool ns => exact ⟨q.1, q.2.mono (fun a o z => z) (fun a ha => upd_ne (fun z => nA i (z ▸ ha))) t⟩
  · rw [upd_ne (show p ≠ D from fun z => nA i (z ▸ h))]
    exact (S.al i p h).1
  · show upd G.E D o p = none
    rw [upd_ne (show p ≠ D from fun z => nA i (z ▸ h))]
    exact S.ae i p h
def del (H : Hp) (D : Addr) : Hp := fun b => if b = D then none else H b
theorem del_ne {H : Hp} {D b : Addr} (h : b ≠ D) : PD.del H D b = H b := by unfold PD.del; rw [if_neg h]
theorem del_same {H : Hp} {D : Addr} : PD.del H D D = none := by unfold PD.del; rw [if_pos rfl]
theorem del_upd {H : Hp} {D : Addr} {o : HO} (h : H D = some o) : upd (PD.del H D) D o = H := by
  funext b
  by_cases q : b = D
  · subst q; rw [upd_same, h]
  · rw [upd_ne q, del_ne q]
theorem Sta.unpin {K : PySem.W.Frag} {G : Gh} {H : Hp} {σ : St} {Γ : List Sl} {D : Addr} {o : HO} {E0 : Hp} (S : Sta K G H σ Γ) (hE : G.E = upd E0 D o) (h0 : E0 D = none) (ho : ∀ xs, o ≠ .tup xs) (hz : ∀ x y, o ≠ .frz x y) (hI : ∀ i, G.I i ≠ some (.ref D)) : Sta K ⟨G.H0, G.P, G.I, G.N, E0⟩ (PD.del H D) σ Γ ∧ H D = some o ∧ TupLe H (PD.del H D) := by
  obtain ⟨A, S⟩ := S
  have eD : G.E D = some o := by rw [hE, upd_same]
  obtain ⟨g1, g2, g3, g4⟩ := S.w.ex D o eD
  have nA : ∀ i, D ∉ A i := fun i h => by
    have := S.ae i D h
    rw [eD] at this; cases this
  have t : TupLe H (PD.del H D) := fun a xs h => by
    rw [del_ne (fun z => by rw [z, g1] at h; exact ho xs (Option.some.inj h))]
    exact h
  have nD : ∀ a u, G.N a = some u → a ≠ D := fun a u h z => by rw [z, g2] at h; cases h
  have w : Wf ⟨G.H0, G.P, G.I, G.N, E0⟩ (PD.del H D) := by
    refine ⟨fun a u h h2 => ?_, fun a u h => ?_, fun a h => ?_, S.w.p0, fun a u h => ?_, fun i q h => (S.w.iv i q h).imp id fun z => z.imp (fun z => ?_) fun ⟨xs, z⟩ => ⟨xs, t q xs z⟩⟩
    rotate_right
    · have ne : q ≠ D := fun e => hI i (e ▸ h)
      show E0 q ≠ none
      rw [hE, upd_ne ne] at z
      exact z
    · rw [del_ne (fun z => by rw [z] at h; rw [show G.H0 D = some u from h] at g3; cases g3)]
      exact S.w.keep a u h h2
    · rw [del_ne (nD a u h)]
      exact S.w.new a u h
    · rw [del_ne (show a ≠ D from fun z => g4 (z ▸ h))]
      exact S.w.pal a h
    · have h : E0 a = some u := h
      have q : a ≠ D := fun z => by rw [z, h0] at h; cases h
      rw [del_ne q]
      exact S.w.ex a u (by rw [hE, upd_ne q]; exact h)
  refine ⟨⟨A, w, S.len, fun i s h => ?_, fun i p h => ⟨?_, (S.al i p h).2⟩, fun i p h => ?_, S.dj, S.rf⟩, g1, t⟩
  · have q := S.sl i s h
    cases s with
    | un => exact q
    | dat fr d =>
      obtain ⟨q1, v, q2, q3⟩ := q
      exact ⟨q1, v, q2, q3.mono (fun a o z => by cases fr <;> exact z) t⟩
    | own c =>
      obtain ⟨v, q2, q4, q3⟩ := q
      exact ⟨v, q2, q4, Cl.mono q3 (fun a o z => z) (fun a ha => del_ne (fun z => nA i (z ▸ ha))) t⟩
    | io c =>
      obtain ⟨v, q2, q4, q3⟩ := q
      exact ⟨v, q2, q4, Cl.mono q3 (fun a o z => z) (fun a ha => del_ne (fun z => nA i (z ▸ ha))) t⟩
    | lent c =>
      obtain ⟨q1, p, u, q2, q3, q4, q5, q6, q7⟩ := q
      have ne : p ≠ D := fun z => hI i (by rw [← z]; exact q3)
      exact ⟨q1, p, u, q2, q3, by rw [del_ne ne]; exact q4, by show E0 p = _; rw [hE, upd_ne ne] at q5; exact q5, q6, Cl.mono q7 (fun a o z => z) (fun a ha => by
        have : a = p := by simpa using ha
        rw [this, del_ne ne]) t⟩
    | ref _ _ => exact q
    | pool ns => exact ⟨q.1, q.2.mono (fun a o z => z) (fun a ha => del_ne (fun z => nA i (z ▸ ha))) t⟩
  · rw [del_ne (show p ≠ D from fun z => nA i (z ▸ h))]
    exact (S.al i p h).1
  · show E0 p = none
    have := S.ae i p h
    rw [hE, upd_ne (show p ≠ D from fun z => nA i (z ▸ h))] at this
    exact this
theorem Sta.blank {K : PySem.W.Frag} {G : Gh} {H : Hp} {σ : St} {Γ : List Sl} (s : Sta K G H σ Γ) (i : Nat) (o : Option V) : Sta K G H (σ.set i o) (Γ.set i .un) := by
  obtain ⟨A, S⟩ := s
  exact (S.step (i := i) (fp' := []) (s' := .un) (σ' := σ.set i o) (grow0 S.w) (fun p hp => absurd hp (by simp)) (fun j hj => List.getElem?_set_ne (Ne.symm hj)) (List.length_set ..) (fun hlt => rfl) (fun p hp => absurd hp (by simp))).1
theorem Sta.swap {K : PySem.W.Frag} {G : Gh} {H : Hp} {σ σ' : St} {Γ : List Sl} (s : Sta K G H σ Γ) (hl : σ'.length = σ.length) (h : ∀ i : Nat, σ'[i]? = σ[i]? ∨ Γ[i]? = some Sl.un) : Sta K G H σ' Γ := by
  obtain ⟨A, S⟩ := s
  refine ⟨A, S.w, by rw [hl]; exact S.len, fun i sl e => ?_, S.al, S.ae, S.dj, fun i j k ns e1 e2 => ?_⟩
  rotate_left
  · obtain ⟨p, q1, q2⟩ := S.rf i j k ns e1 e2
    refine ⟨p, q1, ?_⟩
    rcases h i with q | q
    · rw [q]; exact q2
    · rw [q] at e1; cases e1
  rcases h i with q | q
  · rw [q]; exact S.sl i sl e
  · rw [q] at e
    cases e
    exact S.sl i .un q
end PD
set_option Elab.async false
set_option linter.all false
set_option maxRecDepth 100000
set_option maxHeartbeats 4000000
namespace PD
open PySem L2
inductive AV where
  | d (fr : Bool) (d : PyData)
  | s (i : Nat)
def AVok (K : PySem.W.Frag) (G : Gh) (H : Hp) (σ : St) (v : V) : AV → Prop
  | .d fr d => Dn K (rg G fr) H v d
  | .s i => σ[i]? = some (some v)
theorem AVok.ext {K : PySem.W.Frag} {G G' : Gh} {H H' : Hp} {σ : St} {v : V} {a : AV} (h : AVok K G H σ v a) (e : Ext G H G' H') : AVok K G' H' σ v a := by
  cases a with
  | d fr d => exact e.dn h
  | s i => exact h
def FldsOk (K : PySem.W.Frag) (G : Rg) (H : Hp) (fs : List (Str × V)) (flds : List (Str × PyData)) : Prop := fs.map (·.1) = flds.map (·.1) ∧ DnA K G H (fs.map (·.2)) (flds.map (·.2))
def XdOk (K : PySem.W.Frag) (G : Rg) (H : Hp) (d : Option Addr) (flds : List (Str × PyData)) : Prop :=
  (∃ a fs, d = some a ∧ G a (.xd fs) ∧ FldsOk K G H fs flds) ∨ (d = none ∧ flds = [])
def XW (X : Cx) (W : WX) (G : Gh) (H : Hp) (_ : St) (x : Exn) : Prop :=
  ∀ G' H' σ' C d, Ext G H G' H' → Sta X.K G' H' σ' x.st → X.mg x.cls = some (.ref C) → XdOk X.K (rg G' true) H' d x.flds → W (.ref C) d σ' H'
theorem XW.ext {X : Cx} {W : WX} {G G' : Gh} {H H' : Hp} {σ : St} {x : Exn} (h : XW X W G H σ x) (e : Ext G H G' H') : XW X W G' H' σ x := fun G2 H2 σ2 C d e2 => h G2 H2 σ2 C d (e.tr e2)
def Pst (X : Cx) (W : WX) (G : Gh) (H : Hp) (σ : St) {τ : Type} (m : R τ) (P : τ → Gh → Hp → Prop) : Prop :=
  match m with
  | .bad => False
  | .exc x => XW X W G H σ x
  | .val r => ∀ G' H', Ext G H G' H' → P r G' H'
theorem Pst.ext {X : Cx} {W : WX} {G G' : Gh} {H H' : Hp} {σ : St} {τ : Type} {m : R τ} {P : τ → Gh → Hp → Prop} (h : Pst X W G H σ m P) (e : Ext G H G' H') : Pst X W G' H' σ m P := by
  cases m with
  | bad => exact h
  | exc x => exact XW.ext (σ := σ) h e
  | val r => exact fun G2 H2 e2 => h G2 H2 (e.tr e2)
theorem Pst.imp {X : Cx} {W : WX} {G : Gh} {H : Hp} {σ : St} {τ : Type} {m : R τ} {P P' : τ → Gh → Hp → Prop} (h : Pst X W G H σ m P) (k : ∀ r G' H', Ext G H G' H' → P r G' H' → P' r G' H') : Pst X W G H σ m P' := by
  cases m with
  | bad => exact h
  | exc x => exact h
  | val r => exact fun G2 H2 e2 => k r G2 H2 e2 (h G2 H2 e2)
theorem Pst.impG {X : Cx} {W : WX} {G : Gh} {H : Hp} {σ : St} {τ : Type} {m : R τ} {P P' : τ → Gh → Hp → Prop} (h : Pst X W G H σ m P) (k : ∀ r G' H', Ext G H G' H' → (∀ G2 H2, Ext G' H' G2 H2 → P r G2 H2) → P' r G' H') : Pst X W G H σ m P' := by
  cases m with
  | bad => exact h
  | exc x => exact h
  | val r => exact fun G2 H2 e2 => k r G2 H2 e2 fun G3 H3 e3 => h G3 H3 (e2.tr e3)
theorem Pst.bind {X : Cx} {W : WX} {G : Gh} {H : Hp} {σ : St} {τ ρ : Type} {m : R τ} {k : τ → R ρ} {P : ρ → Gh → Hp → Prop} (h : Pst X W G H σ (m.bind k) P) : Pst X W G H σ m (fun r G' H' => Pst X W G' H' σ (k r) P) := by
  cases m with
  | bad => exact h
  | exc x => exact h
  | val r => exact fun G2 H2 e2 => Pst.ext h e2
section
variable (X : Cx) (W : WX) (Γ : List Sl)
def rdE {τ : Type} (m : R τ) (av : τ → AV) (Γ' : τ → List Sl) : TE := fun σ H Q => ∃ G, Sta X.K G H σ Γ ∧ Pst X W G H σ m fun r G' H' => ∀ v, Sta X.K G' H' σ (Γ' r) → AVok X.K G' H' σ v (av r) → Q v H'
def rdT {τ : Type} (m : R τ) (b : τ → Bool) (Γ' : τ → List Sl) : TT := fun σ H Q => ∃ G, Sta X.K G H σ Γ ∧ Pst X W G H σ m fun r G' H' => Sta X.K G' H' σ (Γ' r) → Q (b r) H'
def rdF {τ : Type} (m : R τ) (ds : τ → List PyData) (Γ' : τ → List Sl) : TE := fun σ H Q => ∃ G, Sta X.K G H σ Γ ∧ Pst X W G H σ m fun r G' H' => ∀ p vs, Sta X.K G' H' σ (Γ' r) → H' p = none → DnA X.K (rg G' true) H' vs (ds r) → Q (.ref p) (upd H' p (.lst vs))
inductive AVs (K : PySem.W.Frag) (G : Gh) (H : Hp) (σ : St) : List V → List AV → Prop
  | nil : AVs K G H σ [] []
  | cons {v : V} {vs : List V} {a : AV} {as : List AV} : AVok K G H σ v a → AVs K G H σ vs as → AVs K G H σ (v :: vs) (a :: as)
def rdA {τ : Type} (m : R τ) (as : τ → List AV) (Γ' : τ → List Sl) : TA := fun σ H Q => ∃ G, Sta X.K G H σ Γ ∧ Pst X W G H σ m fun r G' H' => ∀ vs, Sta X.K G' H' σ (Γ' r) → AVs X.K G' H' σ vs (as r) → Q vs H'
def Ev (e : Expr) {τ : Type} (m : R τ) (av : τ → AV) (Γ' : τ → List Sl) : Prop := PE X e (rdE X W Γ m av Γ')
def EvT (e : Expr) {τ : Type} (m : R τ) (b : τ → Bool) (Γ' : τ → List Sl) : Prop := PT X e (rdT X W Γ m b Γ')
def EvF (e : Expr) {τ : Type} (m : R τ) (ds : τ → List PyData) (Γ' : τ → List Sl) : Prop := PE X e (rdF X W Γ m ds Γ')
def EvA (es : List Expr) {τ : Type} (m : R τ) (as : τ → List AV) (Γ' : τ → List Sl) : Prop := PA X es (rdA X W Γ m as Γ')
abbrev EvP (e : Expr) (a : AV) : Prop := Ev X W Γ e (R.val ()) (fun _ => a) (fun _ => Γ)
end
theorem AVs.ext {K : PySem.W.Frag} {G G' : Gh} {H H' : Hp} {σ : St} (e : Ext G H G' H') : ∀ {vs : List V} {as : List AV}, AVs K G H σ vs as → AVs K G' H' σ vs as
  | _, _, .nil => .nil
  | _, _, .cons h a => .cons (h.ext e) (AVs.ext e a)
theorem pe_imp {X : Cx} {e : Expr} {t t' : TE} (h : PE X e t) (k : ∀ σ H Q, t' σ H Q → t σ H Q) : PE X e t' := ⟨fun pins s σ H Q I z => h.run pins s σ H Q I (k σ H Q z)⟩
theorem pt_imp {X : Cx} {e : Expr} {t t' : TT} (h : PT X e t) (k : ∀ σ H Q, t' σ H Q → t σ H Q) : PT X e t' := ⟨fun pins s σ H Q I z => h.run pins s σ H Q I (k σ H Q z)⟩
theorem pw_imp {X : Cx} {e : Expr} {t t' : TT} (h : PW X e t) (k : ∀ σ H Q, t' σ H Q → t σ H Q) : PW X e t' := ⟨fun w pins s σ H Q I z => h.run w pins s σ H Q I (k σ H Q z)⟩
theorem pa_imp {X : Cx} {es : List Expr} {t t' : TA} (h : PA X es t) (k : ∀ σ H Q, t' σ H Q → t σ H Q) : PA X es t' := ⟨fun pos pins s σ H Q I z => h.run pos pins s σ H Q I (k σ H Q z)⟩
theorem pe_any {X : Cx} {e : Expr} {α : Type} {t : α → TE} (h : ∀ x, PE X e (t x)) : PE X e (fun σ H Q => ∃ x, t x σ H Q) := ⟨fun pins s σ H Q I ⟨x, z⟩ => (h x).run pins s σ H Q I z⟩
theorem pt_any {X : Cx} {e : Expr} {α : Type} {t : α → TT} (h : ∀ x, PT X e (t x)) : PT X e (fun σ H Q => ∃ x, t x σ H Q) := ⟨fun pins s σ H Q I ⟨x, z⟩ => (h x).run pins s σ H Q I z⟩
theorem pw_any {X : Cx} {e : Expr} {α : Type} {t : α → TT} (h : ∀ x, PW X e (t x)) : PW X e (fun σ H Q => ∃ x, t x σ H Q) := ⟨fun w pins s σ H Q I ⟨x, z⟩ => (h x).run w pins s σ H Q I z⟩
theorem pa_any {X : Cx} {es : List Expr} {α : Type} {t : α → TA} (h : ∀ x, PA X es (t x)) : PA X es (fun σ H Q => ∃ x, t x σ H Q) := ⟨fun pos pins s σ H Q I ⟨x, z⟩ => (h x).run pos pins s σ H Q I z⟩
def visB (sc : Scope) (x : Str) : Bool := match sc.names.lookup x with
  | some .local => true
  | some .cell => true
  | some .free => true
  | _ => false
def glB (sc : Scope) (x : Str) : Bool := match sc.names.lookup x with
  | some .globalImplicit => true
  | _ => false
def locB (sc : Scope) (x : Str) : Bool := match sc.names.lookup x with
  | some .local => true
  | some .cell => true
  | _ => false
theorem loc_of {sc : Scope} {x : Str} (h : locB sc x = true) : Loc sc x := by
  unfold locB at h
  split at h
  · exact .inl ‹_›
  · exact .inr ‹_›
  · cases h
theorem vis_of {sc : Scope} {x : Str} (h : visB sc x = true) : Vis sc x := by
  unfold visB at h
  split at h
  · exact .inl ‹_›
  · exact .inr (.inl ‹_›)
  · exact .inr (.inr ‹_›)
  · cases h
theorem gl_of {sc : Scope} {x : Str} (h : glB sc x = true) : sc.names.lookup x = some .globalImplicit := by
  unfold glB at h
  split at h
  · assumption
  · cases h
def Sto (X : Cx) (sc : Scope) (x : Str) : Prop := Loc sc x ∧ (X.fn x = true ∨ sc.names.lookup x = some .local)
def lclB (sc : Scope) (x : Str) : Bool := match sc.names.lookup x with
  | some .local => true
  | _ => false
theorem sto_l {X : Cx} {sc : Scope} {x : Str} (h : lclB sc x = true) : Sto X sc x := by
  unfold lclB at h
  split at h
  · exact ⟨.inl ‹_›, .inr ‹_›⟩
  · cases h
theorem sto_c {X : Cx} {sc : Scope} {x : Str} (D : ∀ x, X.fn x = true) (h : locB sc x = true) : Sto X sc x := ⟨loc_of h, .inl (D x)⟩
structure Cf0 (X : Cx) (W : WX) (sc : Scope) (N : List Str) : Prop where
  hsc : X.env.scope = sc
  hN : X.N = N
  nd : N.Nodup
  tk : Takes X W
  hu : X.A.units + 64 < cLine
  pass : PassesOwn (model X.prog X.w) X.A X.env X.xe
  hu2 : X.A.units + 150 < cLine
structure Cf (X : Cx) (W : WX) (sc : Scope) (N : List Str) : Prop extends Cf0 X W sc N where
  calm : X.calm = true
section
variable {X : Cx} {W : WX} {sc : Scope} {N : List Str} {Γ : List Sl}
theorem Cf0.gl (C : Cf0 X W sc N) {x : Str} (h : glB sc x = true) : Gl X x := by
  show X.env.scope.names.lookup x = _
  rw [C.hsc]
  exact gl_of h
theorem evp_of {e : Expr} {t : TE} {a : AV} (h : PE X e t) (k : ∀ σ H Q G, Sta X.K G H σ Γ → (∀ G' H' v, Ext G H G' H' → Sta X.K G' H' σ Γ → AVok X.K G' H' σ v a → Q v H') → t σ H Q) : EvP X W Γ e a :=
  pe_imp h fun σ H Q ⟨G, S, p⟩ => k σ H Q G S fun G' H' v e' S' a' => p G' H' e' v S' a'
theorem evp_var (C : Cf0 X W sc N) {i : Nat} {x : Str} {pos : Pos} {fr : Bool} {d : PyData} (hg : Γ[i]? = some (.dat fr d)) (hN : N[i]? = some x) (hv : visB sc x = true)
    (hd : (x == ("__debug__" : Str)) = false := by decide +kernel) (hcd : (x == ("__classdict__" : Str)) = false := by decide +kernel) : EvP X W Γ (.Name x pos) (.d fr d) := by
  refine evp_of (pe_var (i := i) (by rw [C.hN]; exact hN) (by rw [C.hsc]; exact vis_of hv) hd hcd) fun σ H Q G S k => ?_
  obtain ⟨A, T⟩ := id S
  obtain ⟨_, v, h1, h2⟩ := T.sl i _ hg
  exact ⟨v, h1, k G H v (Ext.rf S.w) S h2⟩
theorem evp_slot (C : Cf0 X W sc N) {i : Nat} {x : Str} {pos : Pos} {c : Cl} (hg : Γ[i]? = some (.own c) ∨ Γ[i]? = some (.io c) ∨ Γ[i]? = some (.lent c)) (hN : N[i]? = some x) (hv : visB sc x = true)
    (hd : (x == ("__debug__" : Str)) = false := by decide +kernel) (hcd : (x == ("__classdict__" : Str)) = false := by decide +kernel) : EvP X W Γ (.Name x pos) (.s i) := by
  refine evp_of (pe_var (i := i) (by rw [C.hN]; exact hN) (by rw [C.hsc]; exact vis_of hv) hd hcd) fun σ H Q G S k => ?_
  obtain ⟨A, T⟩ := id S
  have : ∃ v, σ[i]? = some (some v) := by
    rcases hg with hg | hg | hg
    · obtain ⟨v, h1, _⟩ := T.sl i _ hg
      exact ⟨v, h1⟩
    · obtain ⟨v, h1, _⟩ := T.sl i _ hg
      exact ⟨v, h1⟩
    · obtain ⟨_, p, o, h1, _⟩ := T.sl i _ hg
      exact ⟨_, h1⟩
  obtain ⟨v, h1⟩ := this
  exact ⟨v, h1, k G H v (Ext.rf S.w) S h1⟩
theorem evp_const {e : Expr} {v : V} {d : PyData} (h : PE X e (tC v)) (hd : ∀ K G H, Dn K G H v d) : EvP X W Γ e (.d true d) :=
  evp_of h fun σ H Q G S k => k G H v (Ext.rf S.w) S (hd _ _ _)
theorem evp_int {i : Int} {j : Nat} {pos : Pos} : EvP X W Γ (.Constant (.int i) j pos) (.d true (.int i)) := evp_const pe_int fun _ _ _ => .int i
theorem evp_bool {b : Bool} {j : Nat} {pos : Pos} : EvP X W Γ (.Constant (.bool b) j pos) (.d true (.bool b)) := evp_const pe_bl fun _ _ _ => .bl b
theorem evp_none {j : Nat} {pos : Pos} : EvP X W Γ (.Constant .none j pos) (.d true .none) := evp_const pe_non fun _ _ _ => .non
theorem evp_str {x : Str} {j : Nat} {pos : Pos} : EvP X W Γ (.Constant (.str x) j pos) (.d true (.str x)) := evp_const pe_str fun _ _ _ => .str x
theorem Ev.free {e : Expr} {τ : Type} {m : R τ} {fr fr' : Bool} {enc : τ → PyData} {Γ' : τ → List Sl} (h : Ev X W Γ e m (fun r => .d fr (enc r)) Γ') (hf : ∀ r, flat (enc r) = true) : Ev X W Γ e m (fun r => .d fr' (enc r)) Γ' :=
  pe_imp h fun σ H Q ⟨G, S, p⟩ => ⟨G, S, p.imp fun r G' H' _ k v S' a => k v S' (Dn.free a (hf r))⟩
theorem EvP.free {e : Expr} {fr fr' : Bool} {d : PyData} (h : EvP X W Γ e (.d fr d)) (hf : flat d = true) : EvP X W Γ e (.d fr' d) := Ev.free h fun _ => hf
theorem EvP.any {e : Expr} {fr : Bool} {d : PyData} (h : EvP X W Γ e (.d fr d)) : EvP X W Γ e (.d false d) :=
  pe_imp h fun σ H Q ⟨G, S, p⟩ => ⟨G, S, p.imp fun r G' H' _ k v S' a => k v S' (Dn.mono (rg_ff G' fr) (TupLe.rf _) a)⟩
theorem EvF.ev {e : Expr} {τ : Type} {m : R τ} {ds : τ → List PyData} {Γ' : τ → List Sl} (h : EvF X W Γ e m ds Γ') : Ev X W Γ e m (fun r => .d true (.list (ds r))) Γ' :=
  pe_imp h fun σ H Q ⟨G, S, p⟩ => ⟨G, S, p.impG fun r G' H' _ k p vs S' hp hd => by
    obtain ⟨S2, e2⟩ := S'.grow (grow_new (o := .lst vs) S'.w hp)
    exact k _ _ e2 _ S2 (.lst (.inl upd_same) (hd.mono e2.n e2.t))⟩
theorem evp_glob (C : Cf0 X W sc N) {x : Str} {v : V} {u : Value} {d : PyData} {pos : Pos} (hg : glB sc x = true) (hm : X.mg x = some u) (r : RelV v u) (hd : ∀ G H, Dn X.K G H v d) (hdb : (x == ("__debug__" : Str)) = false := by decide +kernel) :
    EvP X W Γ (.Name x pos) (.d true d) :=
  evp_of (pe_glob (C.gl hg) hm r hdb) fun σ H Q G S k => k G H v (Ext.rf S.w) S (hd _ _)
theorem bin_rd {α β γ : Type} {ma : R α} {ava : α → AV} {Γa : α → List Sl} {mb : α → R β} {avb : α → β → AV} {Γb : α → β → List Sl} {k : α → β → R γ} {avk : γ → AV} {Γk : γ → List Sl} {r : R2}
    (hk : ∀ x y G H σ u v Q, Sta X.K G H σ (Γb x y) → AVok X.K G H σ u (ava x) → AVok X.K G H σ v (avb x y) → Pst X W G H σ (k x y) (fun z G' H' => ∀ w, Sta X.K G' H' σ (Γk z) → AVok X.K G' H' σ w (avk z) → Q w H') → r u v H Q)
    {σ : St} {H : Hp} {Q : VK} (h : rdE X W Γ (ma.bind fun x => (mb x).bind fun y => k x y) avk Γk σ H Q) :
    tOp r (rdE X W Γ ma ava Γa) (fun σ H Q => ∃ x, rdE X W (Γa x) (mb x) (avb x) (Γb x) σ H Q) σ H Q := by
  obtain ⟨G, S, p⟩ := h
  refine ⟨G, S, (Pst.bind p).imp fun x G1 H1 e1 p1 u S1 a1 => ⟨x, G1, S1, (Pst.bind p1).imp fun y G2 H2 e2 p2 v S2 a2 => ?_⟩⟩
  exact hk x y G2 H2 σ u v Q S2 (a1.ext e2) a2 p2
variable {a b : Expr} {pos : Pos} {α β γ : Type} {ma : R α} {mb : α → R β} {Γa : α → List Sl} {Γb : α → β → List Sl} {Γk : γ → List Sl}
end
end PD
set_option Elab.async false
set_option linter.all false
set_option maxRecDepth 100000
set_option maxHeartbeats 4000000
set_option autoImplicit false
namespace PD
open PySem L2
theorem itT {P Q : Prop} (h : P) : if true = true then P else Q := by rw [if_pos rfl]; exact h
theorem itF {P Q : Prop} (h : Q) : if false = true then P else Q := by rw [if_neg (by simp)]; exact h
theorem R.bind_assoc {α β γ : Type} (m : R α) (f : α → R β) (g : β → R γ) : (m.bind f).bind g = m.bind fun a => (f a).bind g := by cases m <;> rfl
theorem R.bind_val {α : Type} (m : R α) : (m.bind fun a => .val a) = m := by cases m <;> rfl
def R.ofO {α : Type} : Option α → R α
  | some a => .val a
  | none => .bad
def R.req (b : Bool) : R Unit := if b then .val () else .bad
def cMul (i j : Int) : Bool := decide (i.natAbs.log2 + j.natAbs.log2 < 1000000)
def cDiv (_ j : Int) : Bool := decide (0 < j) && decide (j.natAbs.log2 < 9000)
def cMod (_ j : Int) : Bool := decide (0 < j)
def cShl (i j : Int) : Bool := decide (0 ≤ j) && decide ((Builtin.Int.intBits i : Int) + j ≤ 2 ^ 27)
def cShr (_ j : Int) : Bool := decide (0 ≤ j)
def cPow (i j : Int) : Bool := decide (0 ≤ j ∧ j ≤ 1000000 ∧ i.natAbs < 2 ^ 64)
theorem cMul_ok (i j : Int) (h : cMul i j = true) : CMulW i j := of_decide_eq_true (p := i.natAbs.log2 + j.natAbs.log2 < 1000000) h
theorem cDiv_ok (i j : Int) (h : cDiv i j = true) : CDivW i j := by
  unfold cDiv at h
  rw [Bool.and_eq_true] at h
  exact ⟨of_decide_eq_true h.1, of_decide_eq_true h.2⟩
theorem cMod_ok (i j : Int) (h : cMod i j = true) : 0 < j := of_decide_eq_true h
theorem cPow_ok (i j : Int) (h : cPow i j = true) : CPow i j := of_decide_eq_true (p := 0 ≤ j ∧ j ≤ 1000000 ∧ i.natAbs < 2 ^ 64) h
inductive Rdb (Γ : List Sl) : AV → PyData → Prop
  | d {fr : Bool} {z : PyData} : Rdb Γ (.d fr z) z
  | o {i : Nat} {es : List PyData} : Γ[i]? = some (.own (.lst es)) → Rdb Γ (.s i) (.list es)
  | i {i : Nat} {es : List PyData} : Γ[i]? = some (.io (.lst es)) → Rdb Γ (.s i) (.list es)
  | l {i : Nat} {es : List PyData} : Γ[i]? = some (.lent (.lst es)) → Rdb Γ (.s i) (.list es)
theorem atI_map {α β : Type} (f : α → β) (xs : List α) (i : Int) : atI (xs.map f) i = (atI xs i).map f := by
  unfold atI
  rw [List.length_map]
  cases ixN xs.length i with
  | none => rfl
  | some j => simp
theorem atI_dn {K : PySem.W.Frag} {G : Rg} {H : Hp} {vs : List V} {ds : List PyData} {i : Int} {d : PyData} (h : DnA K G H vs ds) (e : atI ds i = some d) : ∃ v, atI vs i = some v ∧ Dn K G H v d := by
  unfold atI at e ⊢
  rw [h.length]
  cases q : ixN ds.length i with
  | none => rw [q] at e; cases e
  | some j =>
    rw [q] at e
    exact h.get' e
def szB {α : Type} (xs : List α) : Bool := decide (xs.length ≤ sizeLine)
def mkS (io : Bool) (c : Cl) : Sl := if io then .io c else .own c
theorem Sta.chg {K : PySem.W.Frag} {G : Gh} {H : Hp} {σ : St} {Γ : List Sl} {ds : List PyData} (s : Sta K G H σ Γ) (i : Nat) (io : Bool) (hi : Γ[i]? = some (mkS io (.lst ds))) :
    ∃ p vs, σ[i]? = some (some (.ref p)) ∧ H p = some (.lst vs) ∧ DnA K (rg G true) H vs ds ∧
      ∀ vs' ds', DnA K (rg G true) H vs' ds' → Sta K G (upd H p (.lst vs')) σ (Γ.set i (mkS io (.lst ds'))) ∧ Ext G H G (upd H p (.lst vs')) := by
  cases io with
  | true => exact s.changeIo i hi
  | false => exact s.change i hi
def ltS {α : Type} (xs : List α) : Bool := decide (xs.length < sizeLine)
section
variable {X : Cx} {W : WX} {sc : Scope} {N : List Str} {Γ : List Sl} {a b c : Expr} {pos : Pos}
theorem Ev.tst {e : Expr} {τ : Type} {m : R τ} {fr : Bool} {b : τ → Bool} {Γ1 : τ → List Sl} (h : Ev X W Γ e m (fun r => .d fr (.bool (b r))) Γ1) (he : ∀ whole, isTrue e X.env whole = (do let v ← whole; standAt e.pos; holding [v] (truthy v)) := by intro _; rfl) : EvT X W Γ e m b Γ1 :=
  pt_imp (pt_val h he) fun σ H Q ⟨G, S, p⟩ => ⟨G, S, Pst.imp p fun r G' H' _ k v S' a => ⟨b r, dn_bool a, k S'⟩⟩
theorem evt_notM {τ : Type} {m : R τ} {z : τ → Bool} {Γ1 : τ → List Sl} (ha : EvT X W Γ a m z Γ1) : EvT X W Γ (.UnaryOp .Not a pos) m (fun r => !z r) Γ1 :=
  pt_imp (pt_not ha) fun σ H Q ⟨G, S, p⟩ => ⟨G, S, p⟩
end
theorem Sta.lent {K : PySem.W.Frag} {G : Gh} {H : Hp} {σ : St} {Γ : List Sl} {i : Nat} {es : List PyData} {v : V} (S : Sta K G H σ Γ) (h : Γ[i]? = some (.own (.lst es)) ∨ Γ[i]? = some (.io (.lst es))) (hv : σ[i]? = some (some v)) : Dn K (RgH H) H v (.list es) := by
  rcases h with h | h
  · obtain ⟨p, vs, h1, h2, h3, _⟩ := S.change i h
    rw [hv] at h1
    cases h1
    exact .lst (.inl h2) (h3.mono (S.w.rgl true) (TupLe.rf _))
  · obtain ⟨p, vs, h1, h2, h3, _⟩ := S.changeIo i h
    rw [hv] at h1
    cases h1
    exact .lst (.inl h2) (h3.mono (S.w.rgl true) (TupLe.rf _))
theorem Sta.lentL {K : PySem.W.Frag} {G : Gh} {H : Hp} {σ : St} {Γ : List Sl} {i : Nat} {es : List PyData} (S : Sta K G H σ Γ) (h : Γ[i]? = some (.lent (.lst es))) : ∃ p vs, σ[i]? = some (some (.ref p)) ∧ H p = some (.lst vs) ∧ G.E p = some (.lst vs) ∧ DnA K (rg G true) H vs es := by
  obtain ⟨A, T⟩ := S
  obtain ⟨_, p, o, h1, h2, h3, h4, h5, q, vs, e, _, h6, h7⟩ := T.sl i _ h
  cases e
  rw [h3] at h6
  cases h6
  exact ⟨p, vs, h1, h3, h4, h7⟩
theorem Rdb.ok {K : PySem.W.Frag} {G : Gh} {H : Hp} {σ : St} {Γ : List Sl} {a : AV} {z : PyData} {v : V} (h : Rdb Γ a z) (S : Sta K G H σ Γ) (hv : AVok K G H σ v a) : Dn K (RgH H) H v z := by
  cases h with
  | d => exact S.w.dn hv
  | o hg => exact S.lent (.inl hg) hv
  | i hg => exact S.lent (.inr hg) hv
  | l hg =>
    obtain ⟨p, vs, h1, h2, _, h3⟩ := S.lentL hg
    have hv : σ[_]? = some (some v) := hv
    rw [h1] at hv
    cases hv
    exact .lst (.inl h2) (h3.mono (S.w.rgl true) (TupLe.rf _))
section
variable {X : Cx} {W : WX} {Γ : List Sl} {a b : Expr} {op : CmpOp} {pos : Pos}
theorem cmp_test {M : Model} {A : Around} {E : Value → Shared → Prop} {env : Env} {s : Shared} {l r : Expr} {op : CmpOp} {pos : Pos} {whole : Sem Value} {Q : Bool → Shared → Prop} (h : wpAny M A (eval (.Compare l [op] [r] pos) env) (fun c s' => wpAny M A (truthy c) Q E s') E s) (hm : behindInMarks op r = false) :
    wpAny M A (isTrue (.Compare l [op] [r] pos) env whole) Q E s := fun Γ p hΓ => by
  have q := h Γ p hΓ
  simp only [eval_Compare1, markedBehindIn_of_false hm, Sem.wp_bind', Sem.wp_holding, Sem.wp_cmd_standAt, Sem.wp_operate] at q
  simp only [isTrue_Compare1, markedBehindIn_of_false hm, Sem.wp_bind', Sem.wp_holding, Sem.wp_cmd_standAt, Sem.wp_operate]
  exact Sem.wp_mono M Γ _ (fun a p1 s1 h1 => Sem.wp_mono M Γ _ (fun b p2 s2 h2 => Sem.wp_mono M Γ _ (fun c p3 s3 h3 => h3 Γ p3 hΓ) (fun _ _ _ z => z) _ _ h2) (fun _ _ _ z => z) _ _ h1) (fun _ _ _ z => z) _ _ q
theorem pt_cmpV {X : Cx} {a b : Expr} {op : CmpOp} {pos : Pos} {t : TE} (h : PE X (.Compare a [op] [b] pos) t) (hm : behindInMarks op b = false) : PT X (.Compare a [op] [b] pos) (tB t) := by
  refine ⟨fun pins s σ H Q I hw => cmp_test (thn (h.run pins s σ H _ I hw) fun v s1 ⟨x, H1, I1, r1, q1⟩ => ?_) hm⟩
  obtain ⟨d, rfl, q⟩ := q1
  cases r1
  exact wpAny_truthy_bool ⟨H1, I1, q⟩
theorem Ev.tstC {τ : Type} {m : R τ} {fr : Bool} {z : τ → Bool} {Γ1 : τ → List Sl} (h : Ev X W Γ (.Compare a [op] [b] pos) m (fun r => .d fr (.bool (z r))) Γ1) (hm : behindInMarks op b = false := by first | exact nobehind _ (by decide) (by decide) | rfl) : EvT X W Γ (.Compare a [op] [b] pos) m z Γ1 :=
  pt_imp (pt_cmpV h hm) fun σ H Q ⟨G, S, p⟩ => ⟨G, S, Pst.imp p fun r G' H' _ k v S' a => ⟨z r, dn_bool a, k S'⟩⟩
end
theorem AVs.length {K : PySem.W.Frag} {G : Gh} {H : Hp} {σ : St} : ∀ {vs : List V} {as : List AV}, AVs K G H σ vs as → vs.length = as.length
  | _, _, .nil => rfl
  | _, _, .cons _ a => by simp [AVs.length a]
theorem Sta.newTup {K : PySem.W.Frag} {G : Gh} {H : Hp} {σ : St} {Γ : List Sl} {p : Addr} {vs : List V} {ds : List PyData} {fr : Bool} (S : Sta K G H σ Γ) (hp : H p = none) (hd : DnA K (rg G fr) H vs ds) :
    ∃ G', Sta K G' (upd H p (.tup vs)) σ Γ ∧ Ext G H G' (upd H p (.tup vs)) ∧ Dn K (rg G' fr) (upd H p (.tup vs)) (.ref p) (.tuple ds) := by
  obtain ⟨S', e⟩ := S.grow (grow_new (o := .tup vs) S.w hp)
  exact ⟨_, S', e, .tup upd_same (e.dna hd)⟩
theorem AVs.len {K : PySem.W.Frag} {G : Gh} {H : Hp} {σ : St} : ∀ {vs : List V} {as : List AV}, AVs K G H σ vs as → vs.length = as.length
  | _, _, .nil => rfl
  | _, _, .cons _ a => by simp [AVs.len a]
def max2 (i j : Int) : Int := if j > i then j else i
def min2 (i j : Int) : Int := if j < i then j else i
def b2n (b : Bool) : Int := if b then 1 else 0
def pyTy : PyData → String
  | .none => "NoneType"
  | .bool _ => "bool"
  | .int _ => "int"
  | .str _ => "str"
  | .list _ => "list"
  | .tuple _ => "tuple"
  | .dict _ => "dict"
section
variable {X : Cx} {W : WX} {Γ : List Sl} {a b c : Expr} {rest : List Expr} {pos : Pos} {α β γ : Type} {ma : R α} {ba : α → Bool} {Γa : α → List Sl} {mb : α → R β} {bb : α → β → Bool} {Γb : α → β → List Sl} {Γk : γ → List Sl} {bk : γ → Bool}
def EvWM (X : Cx) (W : WX) (Γ : List Sl) (e : Expr) {τ : Type} (m : R τ) (b : τ → Bool) (Γ' : τ → List Sl) : Prop := PW X e (rdT X W Γ m b Γ')
theorem EvWM.t {e : Expr} (h : EvWM X W Γ e ma ba Γa) : EvT X W Γ e ma ba Γa := PW.pt h
theorem evw_orM1 (h : EvT X W Γ a ma ba Γa) : EvWM X W Γ (.BoolOp .Or [a] pos) ma ba Γa := pw_or1 h
theorem evw_orM (ha : EvT X W Γ a ma ba Γa) (hb : ∀ x, EvWM X W (Γa x) (.BoolOp .Or (b :: rest) pos) (mb x) (bb x) (Γb x)) (k1 : α → γ) (k2 : α → β → γ) (h1 : ∀ x, bk (k1 x) = true := by intros; rfl) (h2 : ∀ x, Γk (k1 x) = Γa x := by intros; rfl) (h3 : ∀ x y, bk (k2 x y) = bb x y := by intros; rfl) (h4 : ∀ x y, Γk (k2 x y) = Γb x y := by intros; rfl) :
    EvWM X W Γ (.BoolOp .Or (a :: b :: rest) pos) (ma.bind fun x => if ba x then .val (k1 x) else (mb x).bind fun y => .val (k2 x y)) bk Γk :=
  pw_imp (pw_or ha (pw_any hb)) fun σ H Q ⟨G, S, p⟩ => ⟨G, S, (Pst.bind p).imp fun x G1 H1 e1 p1 S1 => by
    cases hx : ba x with
    | true =>
      rw [if_pos hx] at p1
      have q := p1 G1 H1 (Ext.rf S1.w) (by rw [h2]; exact S1)
      rw [h1] at q
      exact itT q
    | false =>
      rw [if_neg (by rw [hx]; decide)] at p1
      exact itF ⟨x, G1, S1, (Pst.bind p1).imp fun y G2 H2 e2 p2 S2 => by
        have q := p2 G2 H2 (Ext.rf S2.w) (by rw [h4]; exact S2)
        rw [h3] at q
        exact q⟩⟩
variable {f1 f2 : Bool}
theorem evv_oneM {op : BoolOp} {av : α → AV} (ha : Ev X W Γ a ma av Γa) : Ev X W Γ (.BoolOp op [a] pos) ma av Γa := pe_one ha
end
section
variable {X : Cx} {W : WX} {sc : Scope} {N : List Str} {Γ : List Sl}
theorem eva_nil : EvA X W Γ [] (R.val ()) (fun _ => []) (fun _ => Γ) :=
  pa_imp pa_nil fun σ H Q ⟨G, S, p⟩ => p G H (Ext.rf S.w) [] S .nil
theorem eva_cons {e : Expr} {es : List Expr} {α β γ : Type} {ma : R α} {ava : α → AV} {Γa : α → List Sl} {mb : α → R β} {asb : α → β → List AV} {Γb : α → β → List Sl} (kk : α → β → γ) {as : γ → List AV} {Γk : γ → List Sl}
    (ha : Ev X W Γ e ma ava Γa) (hb : ∀ x, EvA X W (Γa x) es (mb x) (asb x) (Γb x)) (h1 : ∀ x y, as (kk x y) = ava x :: asb x y := by intros; rfl) (h2 : ∀ x y, Γk (kk x y) = Γb x y := by intros; rfl)
    (hst : starEach (e :: es) X.env = (false, eval e X.env) :: starEach es X.env := by rfl) :
    EvA X W Γ (e :: es) (ma.bind fun x => (mb x).bind fun y => .val (kk x y)) as Γk := by
  refine pa_imp (pa_cons ha (pa_any hb) hst) fun σ H Q ⟨G, S, p⟩ => ?_
  refine ⟨G, S, (Pst.bind p).imp fun x G1 H1 e1 p1 v S1 a1 => ⟨x, G1, S1, (Pst.bind p1).imp fun y G2 H2 e2 p2 vs S2 a2 => ?_⟩⟩
  refine p2 G2 H2 (Ext.rf S2.w) (v :: vs) (by rw [h2]; exact S2) ?_
  rw [h1]
  exact .cons (a1.ext e2) a2
end
def sortI (ns : List Int) : List Int := ns.mergeSort (fun a b => decide (a ≤ b))
theorem sortI_perm (ns : List Int) : (sortI ns).Perm ns := List.mergeSort_perm ..
theorem sortI_le (ns : List Int) : (sortI ns).Pairwise (· ≤ ·) := by
  have := List.pairwise_mergeSort (le := fun a b : Int => decide (a ≤ b)) (fun a b c h1 h2 => by simp at *; omega) (fun a b => by simp; omega) ns
  exact this.imp fun h => by simpa using h
theorem sortI_unique {ns ms : List Int} (hp : ms.Perm ns) (hs : ms.Pairwise (· ≤ ·)) : ms = sortI ns := PySem.W.ksm_same (hp.trans (sortI_perm ns).symm) hs (sortI_le ns)
end PD
set_option Elab.async false
set_option linter.all false
set_option maxRecDepth 100000
set_option maxHeartbeats 4000000
set_option autoImplicit false
namespace PD
open PySem L2
abbrev DF := List Sl → R (AV × List Sl)
abbrev DA := List Sl → R (List AV × List Sl)
abbrev DT := List Sl → R (Bool × List Sl)
abbrev DN := List Sl → R (List PyData × List Sl)
section
variable (X : Cx) (W : WX)
def CE (e : Expr) (f : DF) : Prop := ∀ Γ, Ev X W Γ e (f Γ) Prod.fst Prod.snd
def CT (e : Expr) (f : DT) : Prop := ∀ Γ, EvT X W Γ e (f Γ) Prod.fst Prod.snd
def CW (e : Expr) (f : DT) : Prop := ∀ Γ, EvWM X W Γ e (f Γ) Prod.fst Prod.snd
def CN (e : Expr) (f : DN) : Prop := ∀ Γ, EvF X W Γ e (f Γ) Prod.fst Prod.snd
def CA (es : List Expr) (f : DA) : Prop := ∀ Γ, EvA X W Γ es (f Γ) Prod.fst Prod.snd
def Pk (G : Gh) (H : Hp) (σ : St) (m : R (AV × List Sl)) (Q : VK) : Prop := Pst X W G H σ m fun y G' H' => ∀ w, Sta X.K G' H' σ y.2 → AVok X.K G' H' σ w y.1 → Q w H'
end
section
variable {X : Cx} {W : WX} {sc : Scope} {N : List Str} {a b c e : Expr} {pos : Pos} {f g : DF}
theorem Pk.v {G : Gh} {H : Hp} {σ : St} {y : AV} {Γ : List Sl} {Q : VK} (h : Pk X W G H σ (.val (y, Γ)) Q) (S : Sta X.K G H σ Γ) {w : V} (hw : AVok X.K G H σ w y) : Q w H := h G H (Ext.rf S.w) w S hw
theorem Pk.v' {G G' : Gh} {H H' : Hp} {σ : St} {y : AV} {Γ : List Sl} {Q : VK} (h : Pk X W G H σ (.val (y, Γ)) Q) (e : Ext G H G' H') (S : Sta X.K G' H' σ Γ) {w : V} (hw : AVok X.K G' H' σ w y) : Q w H' := h G' H' e w S hw
theorem ev_bad {τ : Type} {Γ : List Sl} {av : τ → AV} {Γ' : τ → List Sl} (h : PE X e (fun _ _ _ => False) := ⟨fun _ _ _ _ _ _ z => z.elim⟩) : Ev X W Γ e (R.bad : R τ) av Γ' := pe_imp h fun σ H Q ⟨G, S, p⟩ => p
theorem evt_bad {τ : Type} {Γ : List Sl} {av : τ → Bool} {Γ' : τ → List Sl} (h : PT X e (fun _ _ _ => False) := ⟨fun _ _ _ _ _ _ z => z.elim⟩) : EvT X W Γ e (R.bad : R τ) av Γ' := pt_imp h fun σ H Q ⟨G, S, p⟩ => p
def dVar (i : Nat) : DF := fun Γ => match Γ[i]? with
  | some (.dat fr d) => .val (.d fr d, Γ)
  | some (.own _) => .val (.s i, Γ)
  | some (.io _) => .val (.s i, Γ)
  | some (.lent _) => .val (.s i, Γ)
  | _ => .bad
theorem ce_var (C : Cf0 X W sc N) (i : Nat) {x : Str} (hN : N[i]? = some x) (hv : visB sc x = true)
    (hd : (x == ("__debug__" : Str)) = false := by decide +kernel) (hcd : (x == ("__classdict__" : Str)) = false := by decide +kernel) : CE X W (.Name x pos) (dVar i) := fun Γ => by
  unfold dVar
  split
  · exact evp_var C ‹_› hN hv hd hcd
  · exact evp_slot C (.inl ‹_›) hN hv hd hcd
  · exact evp_slot C (.inr (.inl ‹_›)) hN hv hd hcd
  · exact evp_slot C (.inr (.inr ‹_›)) hN hv hd hcd
  · exact ev_bad
def dC (d : PyData) : DF := fun Γ => .val (.d true d, Γ)
theorem ce_int {i : Int} {j : Nat} : CE X W (.Constant (.int i) j pos) (dC (.int i)) := fun Γ => evp_int (W := W)
theorem ce_bool {i : Bool} {j : Nat} : CE X W (.Constant (.bool i) j pos) (dC (.bool i)) := fun Γ => evp_bool (W := W)
theorem ce_none {j : Nat} : CE X W (.Constant .none j pos) (dC .none) := fun Γ => evp_none (W := W)
theorem ce_str {x : Str} {j : Nat} : CE X W (.Constant (.str x) j pos) (dC (.str x)) := fun Γ => evp_str (W := W)
theorem ce_glob (C : Cf0 X W sc N) {x : Str} {v : V} {u : Value} {d : PyData} (hg : glB sc x = true) (hm : X.mg x = some u) (r : RelV v u) (hd : ∀ G H, Dn X.K G H v d) (hdb : (x == ("__debug__" : Str)) = false := by decide +kernel) : CE X W (.Name x pos) (dC d) := fun Γ => evp_glob C hg hm r hd hdb
theorem ce_op2 {op : Operator} {r : R2} (k : AV → AV → List Sl → R (AV × List Sl)) (ho : OpR X (binaryOp op) r) (ha : CE X W a f) (hb : CE X W b g)
    (hk : ∀ x y Γ2 G H σ u v Q, Sta X.K G H σ Γ2 → AVok X.K G H σ u x → AVok X.K G H σ v y → Pk X W G H σ (k x y Γ2) Q → r u v H Q) : CE X W (.BinOp a op b pos) (fun Γ => (f Γ).bind fun x => (g x.2).bind fun y => k x.1 y.1 y.2) := fun Γ =>
  pe_imp (pe_op ho (ha Γ) (pe_any fun x : AV × List Sl => hb x.2)) fun σ H Q h => bin_rd (X := X) (W := W) (ava := Prod.fst) (Γa := Prod.snd) (avb := fun _ (y : AV × List Sl) => y.1) (Γb := fun _ (y : AV × List Sl) => y.2) (avk := Prod.fst) (Γk := Prod.snd) (k := fun (x : AV × List Sl) (y : AV × List Sl) => k x.1 y.1 y.2) (fun x y G H σ u v Q S hu hv p => hk x.1 y.1 y.2 G H σ u v Q S hu hv p) h
def dI (k : Int → Int → R Int) (f g : DF) : DF := fun Γ => (f Γ).bind fun x => (g x.2).bind fun y => match x.1, y.1 with
  | .d _ (.int i), .d _ (.int j) => (k i j).bind fun n => .val (.d true (.int n), y.2)
  | _, _ => .bad
theorem ce_ii {op : Operator} {h : Int → Int → Int} {P : Int → Int → Prop} {k : Int → Int → R Int} (hk : ∀ i j, k i j = .bad ∨ (P i j ∧ k i j = .val (h i j))) (ho : OpR X (binaryOp op) (rI P fun i j => .int (h i j))) (ha : CE X W a f) (hb : CE X W b g) : CE X W (.BinOp a op b pos) (dI k f g) := by
  refine ce_op2 (fun x y Γ2 => match x, y with
    | .d _ (.int i), .d _ (.int j) => (k i j).bind fun n => .val (.d true (.int n), Γ2)
    | _, _ => .bad) ho ha hb fun x y Γ2 G H σ u v Q S hu hv p => ?_
  split at p
  · rename_i i _ j
    rcases hk i j with e | ⟨hP, e⟩
    · rw [e] at p; exact p.elim
    · rw [e] at p
      exact ⟨i, j, dn_int hu, dn_int hv, hP, Pk.v p S (.int _)⟩
  · exact p.elim
theorem opR_or {F : Value → Value → Sem Value} {r1 r2 : R2} (h1 : OpR X F r1) (h2 : OpR X F r2) : OpR X F (fun u v H Q => r1 u v H Q ∨ r2 u v H Q) := fun pins s σ H x y v u Q I rx ry z => z.elim (h1 pins s σ H x y v u Q I rx ry) (h2 pins s σ H x y v u Q I rx ry)
def gq {α : Type} (c : Bool) (a : α) : R α := (R.req c).bind fun _ => .val a
theorem gq_cases {α : Type} (c : Bool) (a : α) : gq c a = .bad ∨ (c = true ∧ gq c a = .val a) := by
  cases c
  · exact .inl rfl
  · exact .inr ⟨rfl, rfl⟩
def cMulX (i j : Int) : Bool := decide (i.natAbs < 2 ^ 64) || decide (j.natAbs < 2 ^ 64) || cMul i j
theorem op_mulG : OpR X (binaryOp .Mult) (rI (fun i j => cMulX i j = true) fun i j => .int (i * j)) := fun pins s σ H x y v u Q I rx ry ⟨i, j, e1, e2, c, q⟩ => by
  have c : cMulX i j = true := c
  unfold cMulX at c
  rw [Bool.or_eq_true, Bool.or_eq_true] at c
  rcases c with (c | c) | c
  · have c := of_decide_eq_true c
    exact op_mul pins s σ H x y v u Q I rx ry ⟨i, j, e1, e2, .inl (by omega), q⟩
  · have c := of_decide_eq_true c
    exact op_mul pins s σ H x y v u Q I rx ry ⟨i, j, e1, e2, .inr (by omega), q⟩
  · exact op_mulW pins s σ H x y v u Q I rx ry ⟨i, j, e1, e2, cMul_ok i j c, q⟩
abbrev kSub (i j : Int) : R Int := .val (i - j)
abbrev kAnd (i j : Int) : R Int := .val (Builtin.bitAnd i j)
abbrev kOr (i j : Int) : R Int := .val (Builtin.bitOr i j)
abbrev kMul (i j : Int) : R Int := gq (cMulX i j) (i * j)
abbrev kDiv (i j : Int) : R Int := gq (cDiv i j) (i / j)
abbrev kMod (i j : Int) : R Int := gq (cMod i j) (i % j)
abbrev kPow (i j : Int) : R Int := gq (cPow i j) (i ^ j.toNat)
abbrev kShl (i j : Int) : R Int := gq (cShl i j) (i * 2 ^ j.toNat)
abbrev kShr (i j : Int) : R Int := gq (cShr i j) (i / 2 ^ j.toNat)
theorem ce_mul (ha : CE X W a f) (hb : CE X W b g) : CE X W (.BinOp a .Mult b pos) (dI kMul f g) := ce_ii (fun i j => gq_cases _ _) op_mulG ha hb
theorem gqP {P : Int → Int → Prop} {c : Int → Int → Bool} (h : ∀ i j, c i j = true → P i j) (k : Int → Int → Int) (i j : Int) : gq (c i j) (k i j) = .bad ∨ (P i j ∧ gq (c i j) (k i j) = .val (k i j)) := (gq_cases _ _).imp id fun z => ⟨h i j z.1, z.2⟩
theorem ce_fdiv (ha : CE X W a f) (hb : CE X W b g) : CE X W (.BinOp a .FloorDiv b pos) (dI kDiv f g) := ce_ii (gqP cDiv_ok fun i j => i / j) op_fdivW ha hb
theorem ce_mod (ha : CE X W a f) (hb : CE X W b g) : CE X W (.BinOp a .Mod b pos) (dI kMod f g) := ce_ii (gqP cMod_ok fun i j => i % j) op_mod ha hb
theorem ce_pow (ha : CE X W a f) (hb : CE X W b g) : CE X W (.BinOp a .Pow b pos) (dI kPow f g) := ce_ii (gqP cPow_ok fun i j => i ^ j.toNat) op_pow ha hb
def rdD (Γ : List Sl) : AV → Option PyData
  | .d _ x => some x
  | .s i => match Γ[i]? with
    | some (.own (.lst es)) => some (.list es)
    | some (.io (.lst es)) => some (.list es)
    | some (.lent (.lst es)) => some (.list es)
    | _ => none
theorem rdD_ok {Γ : List Sl} {y : AV} {x : PyData} (h : rdD Γ y = some x) : Rdb Γ y x := by
  cases y with
  | d fr z => cases h; exact .d
  | s i =>
    unfold rdD at h
    simp only at h
    split at h
    · cases h; exact .o ‹_›
    · cases h; exact .i ‹_›
    · cases h; exact .l ‹_›
    · cases h
def addA : AV → AV → R AV
  | .d _ (.int i), .d _ (.int j) => .val (.d true (.int (i + j)))
  | .d f1 (.tuple xs), .d f2 (.tuple ys) => gq (szB (xs ++ ys)) (.d (f1 && f2) (.tuple (xs ++ ys)))
  | .d _ (.str x), .d _ (.str y) => gq (decide (x.length + y.length ≤ sizeLine)) (.d true (.str (x ++ y)))
  | _, _ => .bad
def dAdd (f g : DF) : DF := fun Γ => (f Γ).bind fun x => (g x.2).bind fun y => (addA x.1 y.1).bind fun z => .val (z, y.2)
theorem rg_and1 (G : Gh) (f1 f2 : Bool) : RgLe (rg G f1) (rg G (f1 && f2)) := by
  cases f1 <;> cases f2
  · exact fun _ _ h => h
  · exact fun _ _ h => h
  · exact rg_ff G true
  · exact fun _ _ h => h
theorem rg_and2 (G : Gh) (f1 f2 : Bool) : RgLe (rg G f2) (rg G (f1 && f2)) := by
  rw [Bool.and_comm]
  exact rg_and1 G f2 f1
theorem ce_add (ha : CE X W a f) (hb : CE X W b g) : CE X W (.BinOp a .Add b pos) (dAdd f g) := by
  refine ce_op2 (fun x y Γ2 => (addA x y).bind fun z => .val (z, Γ2)) (opR_or op_add (opR_or op_catA op_add_str)) ha hb fun x y Γ2 G H σ u v Q S hu hv p => ?_
  unfold addA at p
  split at p
  · rename_i i _ j
    exact .inl ⟨i, j, dn_int hu, dn_int hv, Pk.v p S (.int _)⟩
  · rename_i f1 xs f2 ys
    rcases gq_cases (szB (xs ++ ys)) (AV.d (f1 && f2) (.tuple (xs ++ ys))) with e | ⟨hc, e⟩
    · rw [e] at p; exact p.elim
    · rw [e] at p
      have hc := of_decide_eq_true hc
      obtain ⟨q1, vs, rfl, g1, g2⟩ := dn_tupleH hu
      obtain ⟨q2, ws, rfl, g3, g4⟩ := dn_tupleH hv
      have d1 := g2.mono (rg_and1 G f1 f2) (TupLe.rf H)
      have d2 := g4.mono (rg_and2 G f1 f2) (TupLe.rf H)
      refine .inr (.inl ⟨q1, q2, vs, ws, rfl, rfl, SqT.of g1, SqT.of g3, by rw [g2.length, g4.length]; simpa using hc, fun e1 => ?_, fun _ e2 => ?_, fun _ _ l hl => ?_⟩)
      · subst e1
        cases d1
        exact Pk.v p S (.tup g3 d2)
      · subst e2
        cases d2
        refine Pk.v p S ?_
        rw [List.append_nil]
        exact .tup g1 d1
      · obtain ⟨G2, S2, e2, h2⟩ := S.newTup hl (d1.append d2)
        exact Pk.v' p e2 S2 h2
  · rename_i x _ y
    rcases gq_cases (decide (x.length + y.length ≤ sizeLine)) (AV.d true (.str (x ++ y))) with e | ⟨hc, e⟩
    · rw [e] at p; exact p.elim
    · rw [e] at p
      exact .inr (.inr ⟨x, y, dn_str hu, dn_str hv, of_decide_eq_true hc, Pk.v p S (.str _)⟩)
  · exact p.elim
def dNeg (f : DF) : DF := fun Γ => (f Γ).bind fun x => match x.1 with
  | .d _ (.int i) => .val (.d true (.int (-i)), x.2)
  | _ => .bad
end
section
variable {X : Cx} {W : WX} {sc : Scope} {N : List Str} {a b c e : Expr} {pos : Pos} {f g : DF}
theorem Ev.exc {Γ : List Sl} {τ τ' : Type} {x : Exn} {av : τ → AV} {Γ' : τ → List Sl} {av2 : τ' → AV} {Γ2 : τ' → List Sl} (h : Ev X W Γ e (.exc x : R τ) av Γ') : Ev X W Γ e (.exc x : R τ') av2 Γ2 := pe_imp h fun σ H Q ⟨G, S, p⟩ => ⟨G, S, p⟩
theorem Ev.map {Γ : List Sl} {τ τ' : Type} {m : R τ} {k : τ → τ'} {av : τ' → AV} {Γ' : τ' → List Sl} (h : Ev X W Γ e m (fun r => av (k r)) (fun r => Γ' (k r))) : Ev X W Γ e (m.bind fun r => .val (k r)) av Γ' :=
  pe_imp h fun σ H Q ⟨G, S, p⟩ => ⟨G, S, by cases m <;> exact p⟩
theorem un_rd {Γ : List Sl} {m : R (AV × List Sl)} {k : AV × List Sl → R (AV × List Sl)} {r : V → Hp → VK → Prop} (hk : ∀ x Γ2 G H σ v Q, Sta X.K G H σ Γ2 → AVok X.K G H σ v x → Pk X W G H σ (k (x, Γ2)) Q → r v H Q)
    {σ : St} {H : Hp} {Q : VK} (h : rdE X W Γ (m.bind k) Prod.fst Prod.snd σ H Q) : tUn r (rdE X W Γ m Prod.fst Prod.snd) σ H Q := by
  obtain ⟨G, S, p⟩ := h
  exact ⟨G, S, (Pst.bind p).imp fun x G1 H1 e1 p1 u S1 a1 => hk x.1 x.2 G1 H1 σ u Q S1 a1 p1⟩
theorem ce_neg (ha : CE X W a f) : CE X W (.UnaryOp .USub a pos) (dNeg f) := fun Γ =>
  pe_imp (pe_un un_neg (ha Γ)) fun σ H Q h => un_rd (fun x Γ2 G H σ v Q S hv p => by
    simp only at p
    split at p
    · exact ⟨_, dn_int hv, Pk.v p S (.int _)⟩
    · exact p.elim) h
theorem ce_cmp2 {op : CmpOp} {r : R2} (k : AV → AV → List Sl → R (AV × List Sl)) (ho : OpR X (compareOp op) r) (hm : behindInMarks op b = false) (ha : CE X W a f) (hb : CE X W b g)
    (hk : ∀ x y Γ2 G H σ u v Q, Sta X.K G H σ Γ2 → AVok X.K G H σ u x → AVok X.K G H σ v y → Pk X W G H σ (k x y Γ2) Q → r u v H Q) : CE X W (.Compare a [op] [b] pos) (fun Γ => (f Γ).bind fun x => (g x.2).bind fun y => k x.1 y.1 y.2) := fun Γ =>
  pe_imp (pe_cmpR ho (ha Γ) (pe_any fun x : AV × List Sl => hb x.2) hm) fun σ H Q h => bin_rd (X := X) (W := W) (ava := Prod.fst) (Γa := Prod.snd) (avb := fun _ (y : AV × List Sl) => y.1) (Γb := fun _ (y : AV × List Sl) => y.2) (avk := Prod.fst) (Γk := Prod.snd) (k := fun (x : AV × List Sl) (y : AV × List Sl) => k x.1 y.1 y.2) (fun x y G H σ u v Q S hu hv p => hk x.1 y.1 y.2 G H σ u v Q S hu hv p) h
def boolR (m : R Bool) (Γ : List Sl) : R (AV × List Sl) := m.bind fun b => .val (.d true (.bool b), Γ)
def dCmp (k : List Sl → AV → AV → R Bool) (f g : DF) : DF := fun Γ => (f Γ).bind fun x => (g x.2).bind fun y => boolR (k y.2 x.1 y.1) y.2
def kEq (Γ : List Sl) (x y : AV) : R Bool := match rdD Γ x, rdD Γ y with
  | some p, some q => gq (SeqAt.shaped p && SeqAt.shaped q) (PyData.eqv p q)
  | _, _ => .bad
def kNe (Γ : List Sl) (x y : AV) : R Bool := (kEq Γ x y).bind fun z => .val (!z)
theorem kEq_val {Γ : List Sl} {x y : AV} : (∃ p q, rdD Γ x = some p ∧ rdD Γ y = some q ∧ SeqAt.shaped p = true ∧ SeqAt.shaped q = true ∧ kEq Γ x y = .val (PyData.eqv p q)) ∨ kEq Γ x y = .bad := by
  unfold kEq
  split
  · rename_i p q h1 h2
    rcases gq_cases (SeqAt.shaped p && SeqAt.shaped q) (PyData.eqv p q) with e | ⟨hc, e⟩
    · exact .inr e
    · rw [Bool.and_eq_true] at hc
      exact .inl ⟨p, q, h1, h2, hc.1, hc.2, e⟩
  · exact .inr rfl
theorem ce_eq (C : Cf0 X W sc N) (ha : CE X W a f) (hb : CE X W b g) (hm : behindInMarks .Eq b = false := by first | exact nobehind _ (by decide) (by decide) | rfl) : CE X W (.Compare a [.Eq] [b] pos) (dCmp kEq f g) :=
  ce_cmp2 (fun x y Γ2 => boolR (kEq Γ2 x y) Γ2) (op_eqD C.hu) hm ha hb fun x y Γ2 G H σ u v Q S hu hv p => by
    rcases kEq_val (Γ := Γ2) (x := x) (y := y) with ⟨d, z, h1, h2, s1, s2, e⟩ | e
    · rw [e] at p
      exact ⟨d, z, ((rdD_ok h1).ok S hu).dps s1, ((rdD_ok h2).ok S hv).dps s2, s1, s2, Pk.v p S (.bl _)⟩
    · rw [e] at p; exact p.elim
theorem ce_ne (C : Cf0 X W sc N) (ha : CE X W a f) (hb : CE X W b g) (hm : behindInMarks .NotEq b = false := by first | exact nobehind _ (by decide) (by decide) | rfl) : CE X W (.Compare a [.NotEq] [b] pos) (dCmp kNe f g) :=
  ce_cmp2 (fun x y Γ2 => boolR (kNe Γ2 x y) Γ2) (op_neD C.hu) hm ha hb fun x y Γ2 G H σ u v Q S hu hv p => by
    unfold kNe at p
    rcases kEq_val (Γ := Γ2) (x := x) (y := y) with ⟨d, z, h1, h2, s1, s2, e⟩ | e
    · rw [e] at p
      exact ⟨d, z, ((rdD_ok h1).ok S hu).dps s1, ((rdD_ok h2).ok S hv).dps s2, s1, s2, Pk.v p S (.bl _)⟩
    · rw [e] at p; exact p.elim
def kI (h : Int → Int → Bool) (_ : List Sl) : AV → AV → R Bool
  | .d _ (.int i), .d _ (.int j) => .val (h i j)
  | _, _ => .bad
theorem ce_cmpI {op : CmpOp} {h : Int → Int → Bool} (ho : OpR X (compareOp op) (rI0 fun i j => .bl (h i j))) (ha : CE X W a f) (hb : CE X W b g) (hm : behindInMarks op b = false) : CE X W (.Compare a [op] [b] pos) (dCmp (kI h) f g) :=
  ce_cmp2 (fun x y Γ2 => boolR (kI h Γ2 x y) Γ2) ho hm ha hb fun x y Γ2 G H σ u v Q S hu hv p => by
    unfold kI at p
    split at p
    · rename_i i _ j
      exact ⟨i, j, dn_int hu, dn_int hv, Pk.v p S (.bl _)⟩
    · exact p.elim
theorem ce_lt (ha : CE X W a f) (hb : CE X W b g) (hm : behindInMarks .Lt b = false := by first | exact nobehind _ (by decide) (by decide) | rfl) : CE X W (.Compare a [.Lt] [b] pos) (dCmp (kI fun i j => decide (i < j)) f g) := ce_cmpI op_lt ha hb hm
theorem ce_gt (ha : CE X W a f) (hb : CE X W b g) (hm : behindInMarks .Gt b = false := by first | exact nobehind _ (by decide) (by decide) | rfl) : CE X W (.Compare a [.Gt] [b] pos) (dCmp (kI fun i j => decide (j < i)) f g) := ce_cmpI op_gt ha hb hm
theorem ce_ge (ha : CE X W a f) (hb : CE X W b g) (hm : behindInMarks .GtE b = false := by first | exact nobehind _ (by decide) (by decide) | rfl) : CE X W (.Compare a [.GtE] [b] pos) (dCmp (kI fun i j => decide (j ≤ i)) f g) := ce_cmpI op_ge ha hb hm
def isN : PyData → Bool
  | .none => true
  | _ => false
def kIs (Γ : List Sl) (x y : AV) : R Bool := match rdD Γ x, y with
  | some p, .d _ .none => .val (isN p)
  | _, _ => .bad
theorem dn_isN {K : PySem.W.Frag} {G : Rg} {H : Hp} {v : V} {p : PyData} (h : Dn K G H v p) : decide (v = .non) = isN p := by cases h <;> rfl
theorem ce_is (ha : CE X W a f) (hb : CE X W b g) (hm : behindInMarks .Is b = false := by first | exact nobehind _ (by decide) (by decide) | rfl) : CE X W (.Compare a [.Is] [b] pos) (dCmp kIs f g) :=
  ce_cmp2 (fun x y Γ2 => boolR (kIs Γ2 x y) Γ2) op_isN hm ha hb fun x y Γ2 G H σ u v Q S hu hv p => by
    unfold kIs at p
    split at p
    · rename_i z _ h1
      refine ⟨dn_none hv, ?_⟩
      rw [dn_isN ((rdD_ok h1).ok S hu)]
      exact Pk.v p S (.bl _)
    · exact p.elim
def flD : PyData → Bool
  | .none => true
  | .bool _ => true
  | .int _ => true
  | .str _ => true
  | _ => false
def kIn (Γ : List Sl) (x y : AV) : R Bool := match rdD Γ x, rdD Γ y with
  | some d, some (.list ds) => gq (SeqAt.shaped d && SeqAt.shaped (.list ds)) (ds.any fun z => PyData.eqv z d)
  | some d, some (.tuple ds) => gq (flD d && ds.all flD) (ds.any fun z => PyData.eqv z d)
  | _, _ => .bad
theorem flD_ok {K : PySem.W.Frag} {G : Rg} {H : Hp} {v : V} {p : PyData} (h : Dn K G H v p) (hf : flD p = true) : flatV v = true := by cases h <;> first | rfl | cases hf
theorem eqV_ok {K : PySem.W.Frag} {G : Rg} {H : Hp} {v u : V} {p q : PyData} (h : Dn K G H v p) (h' : Dn K G H u q) (hf : flD p = true) (hq : flD q = true) : eqV v u = PyData.eqv p q := by
  cases h <;> first | cases hf; done | (cases h' <;> first | cases hq; done | (simp [eqV, PyData.eqv]))
theorem inV_ok {K : PySem.W.Frag} {G : Rg} {H : Hp} {v : V} {p : PyData} (h : Dn K G H v p) (hf : flD p = true) : ∀ {vs : List V} {ds : List PyData}, DnA K G H vs ds → ds.all flD = true → vs.all flatV = true ∧ inV v vs = ds.any fun z => PyData.eqv z p
  | _, _, .nil, _ => ⟨rfl, rfl⟩
  | _, _, .cons q r, hq => by
    simp only [List.all_cons, Bool.and_eq_true] at hq
    obtain ⟨h1, h2⟩ := inV_ok h hf r hq.2
    refine ⟨by simp [h1, flD_ok q hq.1], ?_⟩
    unfold inV at h2 ⊢
    rw [List.any_cons, List.any_cons, h2, eqV_ok q h hq.1 hf]
theorem kIn_cases {G : Gh} {H : Hp} {σ : St} {Γ : List Sl} {x y : AV} {u v : V} (S : Sta X.K G H σ Γ) (hu : AVok X.K G H σ u x) (hv : AVok X.K G H σ v y) : kIn Γ x y = .bad ∨ ∃ z, kIn Γ x y = .val z ∧
    ((∃ d ds, Dp X.K H u d ∧ Dp X.K H v (.list ds) ∧ SeqAt.shaped d = true ∧ SeqAt.shaped (.list ds) = true ∧ z = ds.any fun z => PyData.eqv z d) ∨
     (∃ p xs, v = .ref p ∧ SqT X.K H p xs ∧ flatV u = true ∧ xs.all flatV = true ∧ z = inV u xs)) := by
  unfold kIn
  split
  · rename_i d ds h1 h2
    rcases gq_cases (SeqAt.shaped d && SeqAt.shaped (.list ds)) (ds.any fun z => PyData.eqv z d) with e | ⟨hc, e⟩
    · exact .inl e
    · rw [Bool.and_eq_true] at hc
      exact .inr ⟨_, e, .inl ⟨d, ds, ((rdD_ok h1).ok S hu).dps hc.1, ((rdD_ok h2).ok S hv).dps hc.2, hc.1, hc.2, rfl⟩⟩
  · rename_i d ds h1 h2
    rcases gq_cases (flD d && ds.all flD) (ds.any fun z => PyData.eqv z d) with e | ⟨hc, e⟩
    · exact .inl e
    · rw [Bool.and_eq_true] at hc
      obtain ⟨p, xs, rfl, g1, g2⟩ := dn_tuple ((rdD_ok h2).ok S hv)
      obtain ⟨q1, q2⟩ := inV_ok ((rdD_ok h1).ok S hu) hc.1 g2 hc.2
      exact .inr ⟨_, e, .inr ⟨p, xs, rfl, g1, flD_ok ((rdD_ok h1).ok S hu) hc.1, q1, q2.symm⟩⟩
  · exact .inl rfl
def asB : AV × List Sl → R (Bool × List Sl)
  | (.d _ (.bool z), Γ) => .val (z, Γ)
  | _ => .bad
def dTst (f : DF) : DT := fun Γ => (f Γ).bind asB
theorem ct_lift {f : DF} (ha : CE X W e f) (h1 : ∀ Γ (z : Bool) (fr : Bool) (Γ1 : List Sl), Ev X W Γ e (R.val ()) (fun _ => .d fr (.bool z)) (fun _ => Γ1) → EvT X W Γ e (R.val ()) (fun _ => z) (fun _ => Γ1))
    (h2 : ∀ Γ x, Ev X W Γ e (.exc x : R Unit) (fun _ => .d true (.bool true)) (fun _ => Γ) → EvT X W Γ e (.exc x : R Unit) (fun _ => true) (fun _ => Γ)) : CT X W e (dTst f) := fun Γ => by
  have h := ha Γ
  unfold dTst
  cases hf : f Γ with
  | bad => exact evt_bad
  | exc x =>
    rw [hf] at h
    exact pt_imp (h2 Γ x (Ev.exc h)) fun σ H Q ⟨G, S, p⟩ => ⟨G, S, p⟩
  | val z =>
    rw [hf] at h
    obtain ⟨y, Γ1⟩ := z
    show EvT X W Γ e (asB (y, Γ1)) _ _
    unfold asB
    split
    · rename_i hz
      cases hz
      exact h1 Γ _ _ _ h
    · exact evt_bad
theorem ct_of (ha : CE X W e f) (he : ∀ whole, isTrue e X.env whole = (do let v ← whole; standAt e.pos; holding [v] (truthy v)) := by intro _; rfl) : CT X W e (dTst f) := ct_lift ha (fun Γ z fr Γ1 h => Ev.tst h he) (fun Γ x h => Ev.tst h he)
theorem ct_cmp {op : CmpOp} (ha : CE X W (.Compare a [op] [b] pos) f) (hm : behindInMarks op b = false := by first | exact nobehind _ (by decide) (by decide) | rfl) : CT X W (.Compare a [op] [b] pos) (dTst f) := ct_lift ha (fun Γ z fr Γ1 h => Ev.tstC h hm) (fun Γ x h => Ev.tstC h hm)
def dTnot (f : DT) : DT := fun Γ => (f Γ).bind fun z => .val (!z.1, z.2)
theorem EvT.map {Γ : List Sl} {τ τ' : Type} {m : R τ} {k : τ → τ'} {av : τ' → Bool} {Γ' : τ' → List Sl} (h : EvT X W Γ e m (fun r => av (k r)) (fun r => Γ' (k r))) : EvT X W Γ e (m.bind fun r => .val (k r)) av Γ' :=
  pt_imp h fun σ H Q ⟨G, S, p⟩ => ⟨G, S, by cases m <;> exact p⟩
theorem ct_not {f : DT} (ha : CT X W a f) : CT X W (.UnaryOp .Not a pos) (dTnot f) := fun Γ => EvT.map (evt_notM (ha Γ))
theorem ct_w {f : DT} (h : CW X W e f) : CT X W e f := fun Γ => (h Γ).t
variable {rest : List Expr}
theorem cw_or1 {f : DT} (h : CT X W a f) : CW X W (.BoolOp .Or [a] pos) f := fun Γ => evw_orM1 (h Γ)
def dTor (f g : DT) : DT := fun Γ => (f Γ).bind fun x => if x.1 then .val (true, x.2) else (g x.2).bind fun y => .val y
def dTand (f g : DT) : DT := fun Γ => (f Γ).bind fun x => if x.1 then (g x.2).bind fun y => .val y else .val (false, x.2)
theorem cw_or {f g : DT} (ha : CT X W a f) (hb : CW X W (.BoolOp .Or (b :: rest) pos) g) : CW X W (.BoolOp .Or (a :: b :: rest) pos) (dTor f g) := fun Γ => evw_orM (ha Γ) (fun x => hb x.2) (fun x => (true, x.2)) (fun _ y => y)
end
section
variable {X : Cx} {W : WX} {sc : Scope} {N : List Str} {a b c e : Expr} {es : List Expr} {pos p : Pos} {f g : DF} {k : DA}
theorem ce_one {op : BoolOp} (ha : CE X W a f) : CE X W (.BoolOp op [a] pos) f := fun Γ => evv_oneM (ha Γ)
variable {rest : List Expr}
def dAnd (f g : DF) : DF := fun Γ => (f Γ).bind fun x => (asB x).bind fun u => if u.1 then (g u.2).bind fun y => (asB y).bind fun z => .val (.d true (.bool z.1), z.2) else .val (.d true (.bool false), u.2)
def dOr (f g : DF) : DF := fun Γ => (f Γ).bind fun x => (asB x).bind fun u => if u.1 then .val (.d true (.bool true), u.2) else (g u.2).bind fun y => (asB y).bind fun z => .val (.d true (.bool z.1), z.2)
theorem ce_and (ha : CE X W a f) (hb : CE X W (.BoolOp .And (b :: rest) pos) g) : CE X W (.BoolOp .And (a :: b :: rest) pos) (dAnd f g) := fun Γ =>
  pe_imp (pe_and (ha Γ) (pe_any fun Γ1 => hb Γ1)) fun σ H Q ⟨G, S, q⟩ => ⟨G, S, (Pst.bind q).imp fun x G1 H1 e1 p1 v S1 hv => by
    obtain ⟨x, Γ1⟩ := x
    unfold asB at p1
    split at p1
    · rename_i z Γ2 hz
      cases hz
      refine ⟨_, dn_bool hv, ?_⟩
      have p1 : Pst X W G1 H1 σ (if z then (g Γ1).bind fun y => (asB y).bind fun z => .val (.d true (.bool z.1), z.2) else .val (.d true (.bool false), Γ1)) (fun r G' H' => ∀ w, Sta X.K G' H' σ r.2 → AVok X.K G' H' σ w r.1 → Q w H') := p1
      cases z with
      | false => exact itF (p1 G1 H1 (Ext.rf S1.w) _ S1 (.bl _))
      | true =>
        refine itT ⟨Γ1, G1, S1, (Pst.bind p1).imp fun y G2 H2 e2 p2 w S2 hw => ?_⟩
        obtain ⟨y, Γ2⟩ := y
        unfold asB at p2
        split at p2
        · rename_i hz
          cases hz
          have hw : Dn X.K _ H2 w (.bool _) := hw
          rw [dn_bool hw]
          exact p2 G2 H2 (Ext.rf S2.w) _ S2 (.bl _)
        · exact p2.elim
    · exact p1.elim⟩
def dNot (f : DF) : DF := fun Γ => (f Γ).bind fun x => (asB x).bind fun u => .val (.d true (.bool (!u.1)), u.2)
theorem ce_not (ha : CE X W a f) : CE X W (.UnaryOp .Not a pos) (dNot f) := fun Γ =>
  pe_imp (pe_not (ha Γ)) fun σ H Q ⟨G, S, q⟩ => ⟨G, S, (Pst.bind q).imp fun x G1 H1 e1 p1 v S1 hv => by
    obtain ⟨x, Γ1⟩ := x
    unfold asB at p1
    split at p1
    · rename_i z Γ2 hz
      cases hz
      exact ⟨_, dn_bool hv, p1 G1 H1 (Ext.rf S1.w) _ S1 (.bl _)⟩
    · exact p1.elim⟩
def dA0 : DA := fun Γ => .val ([], Γ)
def dAc (f : DF) (k : DA) : DA := fun Γ => (f Γ).bind fun x => (k x.2).bind fun y => .val (x.1 :: y.1, y.2)
theorem ca_nil : CA X W [] dA0 := fun Γ => eva_nil (W := W)
theorem ca_cons (ha : CE X W e f) (hb : CA X W es k) (hst : starEach (e :: es) X.env = (false, eval e X.env) :: starEach es X.env := by rfl) : CA X W (e :: es) (dAc f k) := fun Γ => eva_cons (as := Prod.fst) (Γk := Prod.snd) (fun (x : AV × List Sl) (y : List AV × List Sl) => (x.1 :: y.1, y.2)) (ha Γ) (fun x => hb x.2) (fun _ _ => rfl) (fun _ _ => rfl) hst
def frzA : AV × List Sl → R (AV × List Sl)
  | (.d true d, Γ) => .val (.d true d, Γ)
  | (.d false d, Γ) => .val (.d (flat d) d, Γ)
  | (.s i, Γ) => match Γ[i]? with
    | some (.own (.lst es)) => .val (.d true (.list es), Γ.set i (.dat true (.list es)))
    | _ => .bad
def dFrz (f : DF) : DF := fun Γ => (f Γ).bind frzA
theorem Pk.ext {G G' : Gh} {H H' : Hp} {σ : St} {m : R (AV × List Sl)} {Q : VK} (h : Pk X W G H σ m Q) (e : Ext G H G' H') : Pk X W G' H' σ m Q := Pst.ext h e
theorem frz_ok {G : Gh} {H : Hp} {σ : St} {x : AV} {Γ : List Sl} {v : V} {Q : VK} (S : Sta X.K G H σ Γ) (hv : AVok X.K G H σ v x) (p : Pk X W G H σ (frzA (x, Γ)) Q) : Q v H := by
  unfold frzA at p
  split at p
  · rename_i hz; cases hz; exact Pk.v p S hv
  · rename_i d Γ2 hz
    cases hz
    refine Pk.v p S ?_
    cases hf : flat d with
    | false => exact hv
    | true => exact Dn.free hv hf
  · rename_i i Γ2 hz
    cases hz
    split at p
    · rename_i ds hi
      obtain ⟨A, T⟩ := id S
      obtain ⟨G2, S2, e2⟩ := S.freeze i hi
      have h2 : (Γ.set i (.dat true (.list ds)))[i]? = some (.dat true (.list ds)) := set_at (List.getElem?_eq_some_iff.mp hi).1
      obtain ⟨A2, T2⟩ := id S2
      obtain ⟨_, w, g1, g2⟩ := T2.sl i _ h2
      have hv : σ[i]? = some (some v) := hv
      rw [hv] at g1
      cases g1
      exact Pk.v' p e2 S2 g2
    · exact p.elim
theorem ce_frz (ha : CE X W e f) : CE X W e (dFrz f) := fun Γ =>
  pe_imp (ha Γ) fun σ H Q ⟨G, S, q⟩ => ⟨G, S, (Pst.bind q).imp fun x G1 H1 e1 p1 v S1 hv => frz_ok (x := x.1) (Γ := x.2) S1 hv p1⟩
def avD : AV → Option PyData
  | .d true d => some d
  | _ => none
def allT : List AV → Option (List PyData)
  | [] => some []
  | .d true d :: as => (allT as).map (d :: ·)
  | _ => none
def allF : List AV → Option (List PyData × Bool)
  | [] => some ([], true)
  | .d fr d :: as => (allF as).map fun z => (d :: z.1, fr && z.2)
  | _ => none
theorem allT_ok {K : PySem.W.Frag} {G : Gh} {H : Hp} {σ : St} : ∀ {as : List AV} {ds : List PyData} {vs : List V}, allT as = some ds → AVs K G H σ vs as → DnA K (rg G true) H vs ds
  | [], _, _, h, .nil => by cases h; exact .nil
  | .d true d :: as, ds, _, h, .cons q r => by
    unfold allT at h
    cases e : allT as with
    | none => rw [e] at h; cases h
    | some xs => rw [e] at h; cases h; exact .cons q (allT_ok e r)
  | .d false d :: as, ds, _, h, _ => by cases h
  | .s i :: as, ds, _, h, _ => by cases h
theorem allF_ok {K : PySem.W.Frag} {G : Gh} {H : Hp} {σ : St} : ∀ {as : List AV} {z : List PyData × Bool} {vs : List V}, allF as = some z → AVs K G H σ vs as → DnA K (rg G z.2) H vs z.1
  | [], _, _, h, .nil => by cases h; exact .nil
  | .d fr d :: as, ds, _, h, .cons q r => by
    unfold allF at h
    cases e : allF as with
    | none => rw [e] at h; cases h
    | some xs =>
      rw [e] at h
      cases h
      exact .cons (Dn.mono (rg_and1 G fr xs.2) (TupLe.rf _) q) ((allF_ok e r).mono (rg_and2 G fr xs.2) (TupLe.rf _))
  | .s i :: as, ds, _, h, _ => by cases h
def dLst (k : DA) : DN := fun Γ => (k Γ).bind fun z => match allT z.1 with
  | some ds => gq (szB z.1) (ds, z.2)
  | none => .bad
theorem cn_lst (ha : CA X W es k) : CN X W (.List es pos) (dLst k) := fun Γ =>
  pe_imp (pe_lst (ha Γ)) fun σ H Q ⟨G, S, q⟩ => ⟨G, S, (Pst.bind q).imp fun x G1 H1 e1 p1 vs S1 av => by
    split at p1
    · rename_i ds hd
      rcases gq_cases (szB x.1) (ds, x.2) with e | ⟨hc, e⟩
      · rw [e] at p1; exact p1.elim
      · rw [e] at p1
        exact ⟨by rw [av.len]; exact of_decide_eq_true hc, fun q hq => p1 G1 H1 (Ext.rf S1.w) q vs S1 hq (allT_ok hd av)⟩
    · exact p1.elim⟩
def dTup (k : DA) : DF := fun Γ => (k Γ).bind fun z => match allF z.1 with
  | some ds => gq (szB z.1) (.d ds.2 (.tuple ds.1), z.2)
  | none => .bad
theorem ce_tup {kk : Nat} (ha : CA X W es k) : CE X W (.Tuple es kk pos) (dTup k) := fun Γ =>
  pe_imp (pe_tup (ha Γ)) fun σ H Q ⟨G, S, q⟩ => ⟨G, S, (Pst.bind q).imp fun x G1 H1 e1 p1 vs S1 av => by
    split at p1
    · rename_i ds hd
      rcases gq_cases (szB x.1) (AV.d ds.2 (.tuple ds.1), x.2) with e | ⟨hc, e⟩
      · rw [e] at p1; exact p1.elim
      · rw [e] at p1
        refine ⟨by rw [av.len]; exact of_decide_eq_true hc, fun q hq => ?_⟩
        obtain ⟨G2, S2, e2, h2⟩ := S1.newTup hq (allF_ok hd av)
        exact p1 G2 _ e2 _ S2 h2
    · exact p1.elim⟩
def dOfN (n : DN) : DF := fun Γ => (n Γ).bind fun z => .val (.d true (.list z.1), z.2)
theorem ce_ofN {n : DN} (h : CN X W e n) : CE X W e (dOfN n) := fun Γ => Ev.map (k := fun z : List PyData × List Sl => (AV.d true (.list z.1), z.2)) (EvF.ev (h Γ))
def ixA (Γ : List Sl) (x y : AV) : R AV := match x, y with
  | .d fr (.list ds), .d _ (.int i) => (R.ofO (atI ds i)).bind fun d => .val (.d fr d)
  | .d fr (.tuple ds), .d _ (.int i) => (R.ofO (atI ds i)).bind fun d => .val (.d fr d)
  | .s j, .d _ (.int i) => match rdD Γ (.s j) with
    | some (.list ds) => (R.ofO (atI ds i)).bind fun d => .val (.d true d)
    | _ => .bad
  | _, _ => .bad
theorem Sta.slotL {K : PySem.W.Frag} {G : Gh} {H : Hp} {σ : St} {Γ : List Sl} {j : Nat} {ds : List PyData} {u : V} (S : Sta K G H σ Γ) (h : rdD Γ (.s j) = some (.list ds)) (hu : σ[j]? = some (some u)) : ∃ p vs, u = .ref p ∧ H p = some (.lst vs) ∧ DnA K (rg G true) H vs ds := by
  have hg : Γ[j]? = some (.own (.lst ds)) ∨ Γ[j]? = some (.io (.lst ds)) ∨ Γ[j]? = some (.lent (.lst ds)) := by
    unfold rdD at h
    simp only at h
    split at h
    · cases h; exact .inl ‹_›
    · cases h; exact .inr (.inl ‹_›)
    · cases h; exact .inr (.inr ‹_›)
    · cases h
  have : ∃ p vs, σ[j]? = some (some (.ref p)) ∧ H p = some (.lst vs) ∧ DnA K (rg G true) H vs ds := by
    rcases hg with hg | hg | hg
    · obtain ⟨p, vs, q1, q2, q3, _⟩ := S.change j hg
      exact ⟨p, vs, q1, q2, q3⟩
    · obtain ⟨p, vs, q1, q2, q3, _⟩ := S.changeIo j hg
      exact ⟨p, vs, q1, q2, q3⟩
    · obtain ⟨p, vs, q1, q2, _, q3⟩ := S.lentL hg
      exact ⟨p, vs, q1, q2, q3⟩
  obtain ⟨p, vs, q1, q2, q3⟩ := this
  rw [q1] at hu
  cases hu
  exact ⟨p, vs, rfl, q2, q3⟩
end
end PD
set_option Elab.async false
set_option linter.all false
set_option maxRecDepth 100000
set_option maxHeartbeats 4000000
set_option autoImplicit false
namespace PD
open PySem L2
def NewC (K : PySem.W.Frag) (G : Rg) (H : Hp) (c : Cl) (v : V) (H' : Hp) : Prop := ∃ fp : List Addr, (∀ a, a ∉ fp → H' a = H a) ∧ (∀ p ∈ fp, H p = none ∧ H' p ≠ none) ∧ c.ok K G H' v fp
theorem newc_lst {K : PySem.W.Frag} {G : Rg} {H : Hp} {p : Addr} {vs : List V} {ds : List PyData} (hp : H p = none) (hd : DnA K G H vs ds) : NewC K G H (.lst ds) (.ref p) (upd H p (.lst vs)) :=
  ⟨[p], fun a h => upd_ne (by simpa using h), fun q hq => by
    have : q = p := by simpa using hq
    subst this
    exact ⟨hp, by rw [upd_same]; simp⟩, p, vs, rfl, rfl, upd_same, hd.mono (fun _ _ z => z) (tup_upd hp)⟩
theorem newc_dic {K : PySem.W.Frag} {G : Rg} {H : Hp} {p : Addr} {o : HO} {t : Dk} {vs : List V} {kvs : List (PyData × PyData)} (hp : H p = none) (ho : DcO t p o (kvs.map (·.1)) vs) (hd : DnA K G H vs (kvs.map (·.2))) : NewC K G H (.dic t kvs) (.ref p) (upd H p o) :=
  ⟨[p], fun a h => upd_ne (by simpa using h), fun q hq => by
    have : q = p := by simpa using hq
    subst this
    exact ⟨hp, by rw [upd_same]; simp⟩, p, o, vs, rfl, rfl, upd_same, ho, hd.mono (fun _ _ z => z) (tup_upd hp)⟩
theorem NewC.grow {K : PySem.W.Frag} {G : Gh} {H H' : Hp} {R' : Rg} {c : Cl} {v : V} (w : Wf G H) {fp : List Addr} (h1 : ∀ a, a ∉ fp → H' a = H a) (h2 : ∀ p ∈ fp, H p = none ∧ H' p ≠ none) : Grow G H G.N H' [] := by
  have k : ∀ a o, H a = some o → H' a = some o := fun a o h => by
    rw [h1 a fun hp => by rw [(h2 a hp).1] at h; cases h]
    exact h
  exact ⟨fun a o h _ => k a o h, fun _ h => absurd h (by simp), fun a xs h => k _ _ h, fun _ _ h => h, fun a o h => ⟨k _ _ (w.new a o h).1, .inl h⟩⟩
theorem Sta.putC {K : PySem.W.Frag} {G : Gh} {H H' : Hp} {σ : St} {Γ : List Sl} {c : Cl} {v : V} (s : Sta K G H σ Γ) (i : Nat) (h : NewC K (rg G true) H c v H') : Sta K G H' (σ.set i (some v)) (Γ.set i (.own c)) ∧ Ext G H G H' := by
  obtain ⟨A, S⟩ := s
  obtain ⟨fp, h1, h2, h3⟩ := h
  refine S.step (i := i) (fp' := fp) (NewC.grow (K := K) (R' := rg G true) (c := c) (v := v) S.w h1 h2) (fun p hp => absurd hp (by simp)) (fun j hj => List.getElem?_set_ne (Ne.symm hj)) (List.length_set ..) (fun hlt => ⟨v, ?_, fun q hq => ?_, h3⟩) (fun q hq => ?_)
  · exact set_at (by rw [← S.len]; exact hlt)
  · exact (S.w.fresh (h2 q hq).1).2.1
  · exact ⟨(h2 q hq).2, (S.w.fresh (h2 q hq).1).1, .inr (h2 q hq).1⟩
theorem Cl.nt {K : PySem.W.Frag} {G : Rg} {H : Hp} {v : V} {fp : List Addr} {c : Cl} (h : c.ok K G H v fp) : ∀ p ∈ fp, ∃ o, H p = some o ∧ (∀ xs, o ≠ .tup xs) ∧ ∀ x y, o ≠ .frz x y := by
  cases c with
  | lst ds =>
    obtain ⟨p, vs, rfl, rfl, h1, h2⟩ := h
    intro q hq
    have : q = p := by simpa using hq
    subst this
    exact ⟨_, h1, fun _ z => (nomatch z), fun _ _ z => (nomatch z)⟩
  | tr T => exact h.1.nt
  | mul t l => exact h.1.nt
  | dic t kvs =>
    obtain ⟨p, o, vs, rfl, rfl, h1, h2, h3⟩ := h
    intro q hq
    have : q = p := by simpa using hq
    subst this
    cases t with
    | k => obtain ⟨_, rfl, _⟩ := h2; exact ⟨_, h1, fun _ z => (nomatch z), fun _ _ z => (nomatch z)⟩
    | t => obtain ⟨_, rfl, _⟩ := h2; exact ⟨_, h1, fun _ z => (nomatch z), fun _ _ z => (nomatch z)⟩
    | n => obtain ⟨_, _, rfl, _⟩ := h2; exact ⟨_, h1, fun _ z => (nomatch z), fun _ _ z => (nomatch z)⟩
  | feed f =>
    obtain ⟨d, l, rfl, rfl, h3, h4, h5⟩ := h
    intro q hq
    simp only [List.mem_cons, List.not_mem_nil, or_false] at hq
    rcases hq with rfl | rfl
    · exact ⟨_, h4, fun _ z => (nomatch z), fun _ _ z => (nomatch z)⟩
    · exact ⟨_, h5, fun _ z => (nomatch z), fun _ _ z => (nomatch z)⟩
theorem Sta.releaseC {K : PySem.W.Frag} {G : Gh} {H : Hp} {σ : St} {Γ : List Sl} {c : Cl} (s : Sta K G H σ Γ) (i : Nat) (hi : Γ[i]? = some (.own c)) :
    ∃ v H', σ[i]? = some (some v) ∧ Sta K G H' σ (Γ.set i .un) ∧ Ext G H G H' ∧ NewC K (rg G true) H' c v H := by
  obtain ⟨A, S⟩ := s
  obtain ⟨v, h1, h0, hc⟩ := S.sl i _ hi
  have nt := Cl.nt hc
  let H' : Hp := fun a => if a ∈ A i then none else H a
  have hne : ∀ a, a ∉ A i → H' a = H a := fun a h => if_neg h
  have hin : ∀ a, a ∈ A i → H' a = none := fun a h => if_pos h
  have nA : ∀ j, j ≠ i → ∀ p, p ∈ A j → p ∉ A i := fun j hj p h h' => hj (S.dj j i p h h')
  have t : TupLe H H' := fun a xs h => by
    rw [hne a fun z => by obtain ⟨o, e, q, _⟩ := nt a z; rw [e] at h; exact q xs (Option.some.inj h)]
    exact h
  have w : Wf G H' := by
    refine ⟨fun a u h h2 => ?_, fun a u h => ?_, fun a h => ?_, S.w.p0, fun a u h => ?_, fun i q h => (S.w.iv i q h).imp id fun z => z.imp id fun ⟨xs, z⟩ => ⟨xs, t q xs z⟩⟩
    · rw [hne a fun z => by rw [h0 a z] at h; cases h]
      exact S.w.keep a u h h2
    · rw [hne a fun z => by rw [(S.al i a z).2.1] at h; cases h]
      exact S.w.new a u h
    · rw [hne a fun z => S.w.p0 a h (h0 a z)]
      exact S.w.pal a h
    · rw [hne a fun z => by rw [S.ae i a z] at h; cases h]
      exact S.w.ex a u h
  have e : Ext G H G H' := ⟨rfl, rfl, rfl, rfl, fun _ _ h => h, fun _ _ h => .inl h, t, w⟩
  refine ⟨v, H', h1, ⟨fun j => if j = i then [] else A j, w, by rw [List.length_set]; exact S.len, fun j s h => ?_, fun j q h => ?_, fun j q h => ?_, fun j k q h h2 => ?_, rf_set S.rf rfl (fun j hj => if_neg hj) (fun _ _ => rfl)⟩, e, A i, fun a h => (hne a h).symm, fun p hp => ⟨hin p hp, (S.al i p hp).1⟩, hc⟩
  · by_cases hj : j = i
    · subst hj
      rw [List.getElem?_set_self (List.getElem?_eq_some_iff.mp hi).1] at h
      cases h
      show (if j = j then [] else A j) = []
      rw [if_pos rfl]
    · rw [List.getElem?_set_ne (Ne.symm hj)] at h
      show SlOk K G H' j σ[j]? (if j = i then [] else A j) s
      rw [if_neg hj]
      exact (S.sl j s h).mono e fun a ha => hne a (nA j hj a ha)
  · by_cases hj : j = i
    · rw [if_pos hj] at h; cases h
    · rw [if_neg hj] at h
      exact ⟨by rw [hne q (nA j hj q h)]; exact (S.al j q h).1, (S.al j q h).2⟩
  · by_cases hj : j = i
    · rw [if_pos hj] at h; cases h
    · rw [if_neg hj] at h
      exact S.ae j q h
  · by_cases hj : j = i
    · rw [if_pos hj] at h; cases h
    · by_cases hk : k = i
      · rw [if_pos hk] at h2; cases h2
      · rw [if_neg hj] at h
        rw [if_neg hk] at h2
        exact S.dj j k q h h2
def frzC : Cl → Option PyData
  | .lst ds => some (.list ds)
  | .dic _ _ => none
  | .feed _ => none
  | .tr T => trD T
  | .mul _ _ => none
theorem NewC.frz {K : PySem.W.Frag} {G : Gh} {H H' : Hp} {σ : St} {Γ : List Sl} {c : Cl} {v : V} {d : PyData} (S : Sta K G H σ Γ) (h : NewC K (rg G true) H c v H') (hd : frzC c = some d) :
    ∃ G', Sta K G' H' σ Γ ∧ Ext G H G' H' ∧ Dn K (rg G' true) H' v d := by
  have key : ∀ p o, (∀ a, a ∉ [p] → H' a = H a) → H p = none → H' p = some o → ∃ G', Sta K G' H' σ Γ ∧ Ext G H G' H' ∧ RgLe (rg G true) (rg G' true) ∧ rg G' true p o := fun p o h1 hp ho => by
    have e : H' = upd H p o := by
      funext a
      by_cases q : a = p
      · subst q; rw [upd_same]; exact ho
      · rw [upd_ne q]; exact h1 a (by simpa using q)
    subst e
    obtain ⟨S2, e2⟩ := S.grow (grow_new (o := o) S.w hp)
    exact ⟨_, S2, e2, e2.n, upd_same⟩
  obtain ⟨fp, h1, h2, h3⟩ := h
  cases c with
  | lst ds =>
    cases hd
    obtain ⟨p, vs, rfl, rfl, g1, g2⟩ := h3
    obtain ⟨G', S', e', l, q⟩ := key p _ h1 (h2 p (by simp)).1 g1
    exact ⟨G', S', e', .lst (.inl q) (g2.mono l (TupLe.rf _))⟩
  | dic t kvs => cases hd
  | feed f => cases hd
  | tr T =>
    have hin : ∀ a ∈ fp, H a = none := fun a ha => (h2 a ha).1
    let N' : Hp := fun a => if a ∈ fp then H' a else G.N a
    have nN : ∀ a o, G.N a = some o → a ∉ fp := fun a o e z => by
      have := (S.w.new a o e).1
      rw [hin a z] at this; cases this
    have g : Grow G H N' H' [] := by
      have k : ∀ a o, H a = some o → H' a = some o := fun a o e => by
        rw [h1 a fun z => by rw [hin a z] at e; cases e]; exact e
      refine ⟨fun a o e _ => k a o e, fun _ z => absurd z (by simp), fun a xs e => k _ _ e, fun a o e => ?_, fun a o e => ?_⟩
      · show (if a ∈ fp then H' a else G.N a) = some o
        rw [if_neg (nN a o e)]; exact e
      · have e : (if a ∈ fp then H' a else G.N a) = some o := e
        by_cases z : a ∈ fp
        · rw [if_pos z] at e; exact ⟨e, .inr (hin a z)⟩
        · rw [if_neg z] at e; exact ⟨k _ _ (S.w.new a o e).1, .inl e⟩
    obtain ⟨S2, e2⟩ := S.grow g
    refine ⟨_, S2, e2, TreOk.dn e2.n h3.1 (fun a ha o ho => ?_) d hd⟩
    show (if a ∈ fp then H' a else G.N a) = some o
    rw [if_pos ha]; exact ho
  | mul t l => cases hd
theorem Sta.freezeC {K : PySem.W.Frag} {G : Gh} {H : Hp} {σ : St} {Γ : List Sl} {c : Cl} {d : PyData} (s : Sta K G H σ Γ) (i : Nat) (hi : Γ[i]? = some (.own c)) (hd : frzC c = some d) : ∃ G', Sta K G' H σ (Γ.set i (.dat true d)) ∧ Ext G H G' H := by
  obtain ⟨v, H', h1, S1, e1, n⟩ := s.releaseC i hi
  obtain ⟨G', S2, e2, d2⟩ := n.frz S1 hd
  have S3 := S2.put i d2
  have hs : σ.set i (some v) = σ := by
    apply List.ext_getElem?
    intro j
    by_cases hj : j = i
    · subst hj
      have hl : j < σ.length := (List.getElem?_eq_some_iff.mp h1).1
      rw [List.getElem?_set_self hl, h1]
    · rw [List.getElem?_set_ne (Ne.symm hj)]
  rw [hs, List.set_set] at S3
  exact ⟨G', S3, ⟨e2.h0, e2.p, e2.i, e2.e, e2.n, e2.nn, TupLe.rf _, S3.w⟩⟩
abbrev DC := List Sl → R (Cl × List Sl)
inductive Rs where
  | d (x : PyData)
  | c (x : Cl)
inductive Fw where
  | nx
  | bk
  | ct
  | rt (r : Rs)
abbrev DS := List Sl → R (Fw × List Sl)
def rdC (X : Cx) (W : WX) (Γ : List Sl) (m : R (Cl × List Sl)) : TE := fun σ H Q => ∃ G, Sta X.K G H σ Γ ∧ Pst X W G H σ m fun r G' H' => ∀ v H2, Sta X.K G' H' σ r.2 → NewC X.K (rg G' true) H' r.1 v H2 → Q v H2
def CC (X : Cx) (W : WX) (e : Expr) (f : DC) : Prop := ∀ Γ, PE X e (rdC X W Γ (f Γ))
def FinU (K : PySem.W.Frag) (G : Gh) (H : Hp) (D : Ends) (Γ : List Sl) : Fw → Prop
  | .nx => ∀ σ, Sta K G H σ Γ → D.nx σ H
  | .bk => ∀ σ, Sta K G H σ Γ → D.bk σ H
  | .ct => ∀ σ, Sta K G H σ Γ → D.ct σ H
  | .rt (.d x) => ∀ σ v, Sta K G H σ Γ → Dn K (rg G true) H v x → D.rt v H
  | .rt (.c c) => ∀ σ v H2, Sta K G H σ Γ → NewC K (rg G true) H c v H2 → D.rt v H2
def rdB (X : Cx) (W : WX) (Γ : List Sl) (m : R (Fw × List Sl)) : TS := fun D σ H => ∃ G, Sta X.K G H σ Γ ∧ Pst X W G H σ m fun z G' H' => FinU X.K G' H' D z.2 z.1
def C1 (X : Cx) (W : WX) (s : Stmt) (f : DS) : Prop := ∀ Γ, PS X s (rdB X W Γ (f Γ))
def CS (X : Cx) (W : WX) (ss : List Stmt) (f : DS) : Prop := ∀ Γ, PSs X ss (rdB X W Γ (f Γ))
theorem ps_imp {X : Cx} {s : Stmt} {t t' : TS} (h : PS X s t) (k : ∀ D σ H, t' D σ H → t D σ H) : PS X s t' := ⟨fun pins s σ H D I z => h.run pins s σ H D I (k D σ H z)⟩
theorem pss_imp {X : Cx} {s : List Stmt} {t t' : TS} (h : PSs X s t) (k : ∀ D σ H, t' D σ H → t D σ H) : PSs X s t' := ⟨fun pins s σ H D I z => h.run pins s σ H D I (k D σ H z)⟩
theorem pss_any {X : Cx} {s : List Stmt} {α : Type} {t : α → TS} (h : ∀ x, PSs X s (t x)) : PSs X s (fun D σ H => ∃ x, t x D σ H) := ⟨fun pins s σ H D I ⟨x, z⟩ => (h x).run pins s σ H D I z⟩
def wipeG (Γ : List Sl) : List Nat → List Sl
  | [] => Γ
  | i :: is => (wipeG Γ is).set i .un
theorem Sta.wipe {K : PySem.W.Frag} {G : Gh} {H : Hp} {σ : St} {Γ : List Sl} (s : Sta K G H σ Γ) : ∀ is : List Nat, Sta K G H σ (wipeG Γ is)
  | [] => s
  | i :: is => (Sta.wipe s is).forget i
theorem pg_imp {X : Cx} {tg : Expr} {t t' : TG} (h : PG X tg t) (k : ∀ v σ H Q, t' v σ H Q → t v σ H Q) : PG X tg t' := ⟨fun pins s σ H v u Q I r z => h.run pins s σ H v u Q I r (k v σ H Q z)⟩
structure ItD (K : PySem.W.Frag) (G : Gh) (H : Hp) (J : It) (ds : List PyData) (fr : Bool) : Prop where
  go : ∀ i G2 H2, i < ds.length → Le G H G2 H2 → J.go i H2
  yl : ∀ i G2 H2 σ Γ v H3, i < ds.length → Le G H G2 H2 → Sta K G2 H2 σ Γ → J.yld i H2 v H3 → ∃ G3 d, ds[i]? = some d ∧ Ext G2 H2 G3 H3 ∧ Sta K G3 H3 σ Γ ∧ Dn K (rg G3 fr) H3 v d
  st : ∀ G2 H2, Le G H G2 H2 → J.stop ds.length H2
theorem pi_imp {X : Cx} {tg it : Expr} {t t' : TI} (h : PI X tg it t) (k : ∀ σ H Q, t' σ H Q → t σ H Q) : PI X tg it t' := ⟨fun pins s σ H Q I z => h.run pins s σ H Q I (k σ H Q z)⟩
theorem Cf0.pg {X : Cx} {W : WX} {sc : Scope} {N : List Str} (C : Cf0 X W sc N) {i : Nat} {x : Str} {p : Pos} (hN : N[i]? = some x) (hv : Sto X sc x) : PG X (.Name x p) (gName i) :=
  pg_name (by rw [C.hN]; exact C.nd) (by rw [C.hN]; exact hN) (by rw [C.hsc]; exact hv.1) (by rw [C.hsc]; exact hv.2)
end PD
set_option Elab.async false
set_option linter.all false
set_option maxRecDepth 100000
set_option maxHeartbeats 4000000
set_option autoImplicit false
namespace PD
open PySem L2
section
variable {X : Cx} {W : WX} {sc : Scope} {N : List Str} {e : Expr} {ss rest : List Stmt} {s : Stmt} {pos : Pos} {f g : DS}
def nL (n : DN) : DC := fun Γ => (n Γ).bind fun z => .val (.lst z.1, z.2)
theorem cc_l {n : DN} (h : CN X W e n) : CC X W e (nL n) := fun Γ => pe_imp (h Γ) fun σ H Q ⟨G, S, p⟩ => ⟨G, S, (Pst.bind p).imp fun z G1 H1 e1 p1 q vs S1 hq hd => p1 G1 H1 (Ext.rf S1.w) _ _ S1 (newc_lst hq hd)⟩
def bNil : DS := fun Γ => .val (.nx, Γ)
def bSeq (f g : DS) : DS := fun Γ => (f Γ).bind fun z => match z.1 with
  | .nx => g z.2
  | w => .val (w, z.2)
theorem cs_nil : CS X W [] bNil := fun Γ => pss_imp pss_nil fun D σ H ⟨G, S, p⟩ => p G H (Ext.rf S.w) σ S
theorem cs_cons (hs : C1 X W s f) (hr : CS X W rest g) : CS X W (s :: rest) (bSeq f g) := fun Γ =>
  pss_imp (pss_cons (hs Γ) (pss_any fun Γ1 => hr Γ1)) fun D σ H ⟨G, S, p⟩ => ⟨G, S, (Pst.bind p).imp fun z G1 H1 e1 p1 => by
    obtain ⟨w, Γ1⟩ := z
    cases w with
    | nx => exact fun σ1 S1 => ⟨Γ1, G1, S1, p1⟩
    | bk => exact p1 G1 H1 (Ext.rf e1.w)
    | ct => exact p1 G1 H1 (Ext.rf e1.w)
    | rt r =>
      have q : FinU X.K G1 H1 D Γ1 (.rt r) := p1 G1 H1 (Ext.rf e1.w)
      cases r with
      | d x => exact q
      | c x => exact q⟩
def bFrz (i : Nat) (g : DS) : DS := fun Γ => match Γ[i]? with
  | some (.own c) => (R.ofO (frzC c)).bind fun d => g (Γ.set i (.dat true d))
  | _ => g Γ
theorem cs_frz (i : Nat) (h : CS X W ss g) : CS X W ss (bFrz i g) := fun Γ => by
  unfold bFrz
  split
  · rename_i c hc
    cases hd : frzC c with
    | none => exact pss_imp (h Γ) fun D σ H ⟨G, S, p⟩ => p.elim
    | some d =>
      exact pss_imp (h _) fun D σ H ⟨G, S, p⟩ => by
        obtain ⟨G2, S2, e2⟩ := S.freezeC i hc hd
        exact ⟨G2, S2, Pst.ext p e2⟩
  · exact h Γ
def asSl : AV → Option Sl
  | .d fr d => some (.dat fr d)
  | _ => none
def bSet (i : Nat) (e : DF) : DS := fun Γ => (e Γ).bind fun z => (R.ofO (asSl z.1)).bind fun s => .val (.nx, z.2.set i s)
theorem c1_set (C : Cf0 X W sc N) (i : Nat) {x : Str} {p' : Pos} {f : DF} (hN : N[i]? = some x) (hv : Sto X sc x) (he : CE X W e f) (hs : swapsWith e (some (.Name x p')) pos.line X.env = pure false := by rfl) : C1 X W (.Assign [.Name x p'] e pos) (bSet i f) := fun Γ => by
  have hx : Loc X.env.scope x := by rw [C.hsc]; exact hv.1
  refine ps_imp (ps_set (i := i) (by rw [C.hN]; exact C.nd) (by rw [C.hN]; exact hN) hx (he Γ) hs (by rw [C.hsc]; exact hv.2)) fun D σ H ⟨G, S, p⟩ => ⟨G, S, (Pst.bind p).imp fun z G1 H1 e1 p1 v S1 a1 => ?_⟩
  obtain ⟨y, Γ1⟩ := z
  cases y with
  | d fr d => exact p1 G1 H1 (Ext.rf S1.w) _ (S1.put i a1)
  | s j => exact p1.elim
def bSetC (i : Nat) (n : DC) : DS := fun Γ => (n Γ).bind fun z => .val (.nx, z.2.set i (.own z.1))
def bExpr (e : DF) : DS := fun Γ => (e Γ).bind fun z => .val (.nx, z.2)
theorem c1_expr {f : DF} (he : CE X W e f) (hs : swapsWith e none pos.line X.env = pure false := by rfl) : C1 X W (.Expr e pos) (bExpr f) := fun Γ =>
  ps_imp (ps_expr (he Γ) hs) fun D σ H ⟨G, S, p⟩ => ⟨G, S, (Pst.bind p).imp fun z G1 H1 e1 p1 v S1 a1 => p1 G1 H1 (Ext.rf S1.w) σ S1⟩
def bRet (e : DF) : DS := fun Γ => (e Γ).bind fun z => (frzA z).bind fun y => match y.1 with
  | .d true d => .val (.rt (.d d), y.2)
  | _ => .bad
theorem frzP {ρ : Type} {G : Gh} {H : Hp} {σ : St} {x : AV} {Γ : List Sl} {v : V} {k : AV × List Sl → R ρ} {P : ρ → Gh → Hp → Prop} (S : Sta X.K G H σ Γ) (hv : AVok X.K G H σ v x) (p : Pst X W G H σ ((frzA (x, Γ)).bind k) P) : ∃ y G', Sta X.K G' H σ y.2 ∧ Ext G H G' H ∧ AVok X.K G' H σ v y.1 ∧ Pst X W G' H σ (k y) P := by
  unfold frzA at p
  split at p
  · rename_i hz; cases hz; exact ⟨_, G, S, Ext.rf S.w, hv, p⟩
  · rename_i d Γ2 hz
    cases hz
    refine ⟨_, G, S, Ext.rf S.w, ?_, p⟩
    cases hf : flat d with
    | false => exact hv
    | true => exact Dn.free hv hf
  · rename_i i Γ2 hz
    cases hz
    split at p
    · rename_i ds hi
      obtain ⟨G2, S2, e2⟩ := S.freeze i hi
      have h2 : (Γ.set i (.dat true (.list ds)))[i]? = some (.dat true (.list ds)) := set_at (List.getElem?_eq_some_iff.mp hi).1
      obtain ⟨A2, T2⟩ := id S2
      obtain ⟨_, w, g1, g2⟩ := T2.sl i _ h2
      have hv : σ[i]? = some (some v) := hv
      rw [hv] at g1
      cases g1
      exact ⟨(.d true (.list ds), Γ.set i (.dat true (.list ds))), G2, S2, e2, g2, Pst.ext p e2⟩
    · exact p.elim
theorem c1_ret {f : DF} (he : CE X W e f) : C1 X W (.Return (some e) pos) (bRet f) := fun Γ =>
  ps_imp (ps_ret (he Γ)) fun D σ H ⟨G, S, p⟩ => ⟨G, S, (Pst.bind p).imp fun z G1 H1 e1 p1 v S1 a1 => by
    obtain ⟨x, Γ1⟩ := z
    obtain ⟨y, G2, S2, e2, a2, p2⟩ := frzP S1 a1 p1
    obtain ⟨y, Γ2⟩ := y
    simp only at p2
    split at p2
    · exact p2 G2 H1 (Ext.rf S2.w) σ v S2 a2
    · exact p2.elim⟩
def bRet0 : DS := fun Γ => .val (.rt (.d .none), Γ)
def bRetC (n : DC) : DS := fun Γ => (n Γ).bind fun z => .val (.rt (.c z.1), z.2)
theorem c1_retC {n : DC} (he : CC X W e n) : C1 X W (.Return (some e) pos) (bRetC n) := fun Γ =>
  ps_imp (ps_ret (he Γ)) fun D σ H ⟨G, S, p⟩ => ⟨G, S, (Pst.bind p).imp fun z G1 H1 e1 p1 v H2 S1 hn => p1 G1 H1 (Ext.rf S1.w) σ v H2 S1 hn⟩
def bRetO (i : Nat) : DS := fun Γ => match Γ[i]? with
  | some (.own c) => .val (.rt (.c c), Γ.set i .un)
  | _ => .bad
theorem c1_retO (C : Cf0 X W sc N) (i : Nat) {x : Str} {p' : Pos} (hN : N[i]? = some x) (hv : visB sc x = true) (hd : (x == ("__debug__" : Str)) = false := by decide +kernel) (hcd : (x == ("__classdict__" : Str)) = false := by decide +kernel) : C1 X W (.Return (some (.Name x p')) pos) (bRetO i) := fun Γ => by
  unfold bRetO
  split
  · rename_i c hc
    refine ps_imp (ps_ret (evp_slot (Γ := Γ) (W := W) C (.inl hc) hN hv hd hcd)) fun D σ H ⟨G, S, p⟩ => ⟨G, S, fun G1 H1 e1 v S1 a1 => ?_⟩
    obtain ⟨w, H2, h1, S2, e2, n2⟩ := S1.releaseC i hc
    have a1 : σ[i]? = some (some v) := a1
    rw [h1] at a1
    cases a1
    exact p G1 H2 (e1.tr e2) σ v H1 S2 n2
  · exact ⟨fun pins s σ H D I ⟨G, S, p⟩ => p.elim⟩
def bIf (c : DT) (f g : DS) : DS := fun Γ => (c Γ).bind fun x => if x.1 then f x.2 else g x.2
theorem c1_if {c : Expr} {a b : List Stmt} {t : DT} (hc : CT X W c t) (ha : CS X W a f) (hb : CS X W b g) : C1 X W (.If c a b pos) (bIf t f g) := fun Γ =>
  ps_imp (ps_if (hc Γ) (pss_any fun Γ1 => ha Γ1) (pss_any fun Γ1 => hb Γ1)) fun D σ H ⟨G, S, p⟩ => ⟨G, S, (Pst.bind p).imp fun z G1 H1 e1 p1 S1 => by
    obtain ⟨z, Γ1⟩ := z
    cases z with
    | true => exact itT ⟨Γ1, G1, S1, p1⟩
    | false => exact itF ⟨Γ1, G1, S1, p1⟩⟩
abbrev DG := Bool → PyData → List Sl → Option (List Sl)
def CG (X : Cx) (tg : Expr) (ts : List Nat) (g : DG) : Prop :=
  PG X tg (fun v σ H Q => ∃ G Γ fr d Γ', Sta X.K G H σ Γ ∧ Dn X.K (rg G fr) H v d ∧ g fr d Γ = some Γ' ∧ ∀ σ', σ'.length = σ.length → (∀ j, j ∉ ts → σ'[j]? = σ[j]?) → Sta X.K G H σ' Γ' → Q σ' H)
def gN (i : Nat) : DG := fun fr d Γ => some (Γ.set i (.dat fr d))
theorem cg_name (C : Cf0 X W sc N) (i : Nat) {x : Str} {p : Pos} (hN : N[i]? = some x) (hv : Sto X sc x) : CG X (.Name x p) [i] (gN i) :=
  pg_imp (C.pg hN hv) fun v σ H Q ⟨G, Γ, fr, d, Γ', S, h, e, k⟩ => by
    cases e
    exact k _ (List.length_set ..) (fun j hj => List.getElem?_set_ne (Ne.symm (by simpa using hj))) (S.put i h)
def gT2 (g1 g2 : DG) : DG := fun fr d Γ => match d with
  | .tuple [a, b] => (g1 fr a Γ).bind fun Γ1 => g2 fr b Γ1
  | _ => none
theorem cg_tup2 (C : Cf X W sc N) {t1 t2 : Expr} {kk : Nat} {p : Pos} {g1 g2 : DG} {ts1 ts2 : List Nat} (h1 : CG X t1 ts1 g1) (h2 : CG X t2 ts2 g2)
    (hn : (assignEach [t1, t2] X.env).length = 2 := by rfl) (hst : (assignEach [t1, t2] X.env).findIdx? (·.1) = none := by rfl) (hs1 : (assignEach [t1, t2] X.env).map (·.2) = assign t1 X.env :: (assignEach [t2] X.env).map (·.2) := by rfl) (hs2 : (assignEach [t2] X.env).map (·.2) = assign t2 X.env :: (assignEach [] X.env).map (·.2) := by rfl) :
    CG X (.Tuple [t1, t2] kk p) (ts1 ++ ts2) (gT2 g1 g2) := by
  refine pg_imp (pg_tup (n := 2) C.calm (pgs_cons h1 (pgs_cons h2 pgs_nil hs2) hs1) hn hst) fun v σ H Q ⟨G, Γ, fr, d, Γ', S, h, e, k⟩ => ?_
  unfold gT2 at e
  split at e
  · rename_i a b
    obtain ⟨q, xs, rfl, hq, hd⟩ := dn_tuple h
    cases hd with
    | cons d1 r1 =>
      cases r1 with
      | cons d2 r2 =>
        cases r2
        cases e1 : g1 fr a Γ with
        | none => rw [e1] at e; cases e
        | some Γ1 =>
          rw [e1] at e
          exact ⟨q, _, rfl, hq, rfl, _, _, rfl, G, Γ, fr, a, Γ1, S, d1, e1, fun σ1 l1 k1 S1 => ⟨_, _, rfl, G, Γ1, fr, b, Γ', S1, d2, e, fun σ2 l2 k2 S2 => ⟨rfl, k _ (l2.trans l1) (fun j hj => (k2 j fun z => hj (by simp [z])).trans (k1 j fun z => hj (by simp [z]))) S2⟩⟩⟩
  · cases e
def gT3 (g1 g2 g3 : DG) : DG := fun fr d Γ => match d with
  | .tuple [a, b, c] => (g1 fr a Γ).bind fun Γ1 => (g2 fr b Γ1).bind fun Γ2 => g3 fr c Γ2
  | _ => none
theorem cg_tup3 (C : Cf X W sc N) {t1 t2 t3 : Expr} {kk : Nat} {p : Pos} {g1 g2 g3 : DG} {ts1 ts2 ts3 : List Nat} (h1 : CG X t1 ts1 g1) (h2 : CG X t2 ts2 g2) (h3 : CG X t3 ts3 g3)
    (hn : (assignEach [t1, t2, t3] X.env).length = 3 := by rfl) (hst : (assignEach [t1, t2, t3] X.env).findIdx? (·.1) = none := by rfl) (hs1 : (assignEach [t1, t2, t3] X.env).map (·.2) = assign t1 X.env :: (assignEach [t2, t3] X.env).map (·.2) := by rfl)
    (hs2 : (assignEach [t2, t3] X.env).map (·.2) = assign t2 X.env :: (assignEach [t3] X.env).map (·.2) := by rfl) (hs3 : (assignEach [t3] X.env).map (·.2) = assign t3 X.env :: (assignEach [] X.env).map (·.2) := by rfl) :
    CG X (.Tuple [t1, t2, t3] kk p) (ts1 ++ ts2 ++ ts3) (gT3 g1 g2 g3) := by
  refine pg_imp (pg_tup (n := 3) C.calm (pgs_cons h1 (pgs_cons h2 (pgs_cons h3 pgs_nil hs3) hs2) hs1) hn hst) fun v σ H Q ⟨G, Γ, fr, d, Γ', S, h, e, k⟩ => ?_
  unfold gT3 at e
  split at e
  · rename_i a b c
    obtain ⟨q, xs, rfl, hq, hd⟩ := dn_tuple h
    cases hd with
    | cons d1 r1 =>
      cases r1 with
      | cons d2 r2 =>
        cases r2 with
        | cons d3 r3 =>
          cases r3
          cases e1 : g1 fr a Γ with
          | none => rw [e1] at e; cases e
          | some Γ1 =>
            rw [e1] at e
            have e : (g2 fr b Γ1).bind (fun Γ2 => g3 fr c Γ2) = some Γ' := e
            cases e2 : g2 fr b Γ1 with
            | none => rw [e2] at e; cases e
            | some Γ2 =>
              rw [e2] at e
              exact ⟨q, _, rfl, hq, rfl, _, _, rfl, G, Γ, fr, a, Γ1, S, d1, e1, fun σ1 l1 k1 S1 => ⟨_, _, rfl, G, Γ1, fr, b, Γ2, S1, d2, e2, fun σ2 l2 k2 S2 => ⟨_, _, rfl, G, Γ2, fr, c, Γ', S2, d3, e, fun σ3 l3 k3 S3 => ⟨rfl, k _ (l3.trans (l2.trans l1)) (fun j hj => (k3 j fun z => hj (by simp [z])).trans ((k2 j fun z => hj (by simp [z])).trans (k1 j fun z => hj (by simp [z])))) S3⟩⟩⟩⟩
  · cases e
def bSetG (g : DG) (e : DF) : DS := fun Γ => (e Γ).bind fun z => match z.1 with
  | .d fr d => (R.ofO (g fr d z.2)).bind fun Γ1 => .val (.nx, Γ1)
  | _ => .bad
end
end PD
set_option Elab.async false
set_option linter.all false
set_option maxRecDepth 100000
set_option maxHeartbeats 4000000
set_option autoImplicit false
namespace PD
open PySem L2
theorem itd_list {K : PySem.W.Frag} {G : Gh} {H : Hp} {a : Addr} {xs : List V} {ds : List PyData} {fr : Bool} (h : LsR K (rg G fr) a xs) (hd : DnA K (rg G fr) H xs ds) : ItD K G H (Itl K a) ds fr := by
  have sq : ∀ G2 H2, Le G H G2 H2 → SqL K H2 a xs := fun G2 H2 e => ((h.mono (e.rgl fr)).mono (e.w.rgl fr)).sq
  have hl := hd.length
  refine ⟨fun i G2 H2 hi e => ⟨xs, xs[i], sq G2 H2 e, by simp⟩, fun i G2 H2 σ Γ v H3 hi e S y => ?_, fun G2 H2 e => ⟨xs, sq G2 H2 e, Nat.le_of_eq hl⟩⟩
  obtain ⟨rfl, hy⟩ := y
  obtain ⟨d, h1, h2⟩ := (e.dna hd).get (hy xs (sq G2 _ e))
  exact ⟨G2, d, h1, Ext.rf S.w, S, h2⟩
theorem itd_tup {K : PySem.W.Frag} {G : Gh} {H : Hp} {a : Addr} {xs : List V} {ds : List PyData} {fr : Bool} (h : H a = some (.tup xs)) (hd : DnA K (rg G fr) H xs ds) : ItD K G H (Itt K a) ds fr := by
  have sq : ∀ G2 H2, Le G H G2 H2 → SqT K H2 a xs := fun G2 H2 e => SqT.of (e.t _ _ h)
  have hl := hd.length
  refine ⟨fun i G2 H2 hi e => ⟨xs, xs[i], sq G2 H2 e, by simp⟩, fun i G2 H2 σ Γ v H3 hi e S y => ?_, fun G2 H2 e => ⟨xs, sq G2 H2 e, Nat.le_of_eq hl⟩⟩
  obtain ⟨rfl, hy⟩ := y
  obtain ⟨d, h1, h2⟩ := (e.dna hd).get (hy xs (sq G2 _ e))
  exact ⟨G2, d, h1, Ext.rf S.w, S, h2⟩
theorem itd_range {K : PySem.W.Frag} {G : Gh} {H : Hp} {lo : Int} {n : Nat} {ds : List PyData} (hd : ds = (List.range n).map fun i => PyData.int (lo + (i : Nat))) : ItD K G H (Itr lo n) ds true := by
  subst hd
  refine ⟨fun i G2 H2 hi e => by simpa [Itr] using hi, fun i G2 H2 σ Γ v H3 hi e S y => ?_, fun G2 H2 e => by simp [Itr]⟩
  obtain ⟨rfl, rfl⟩ := y
  have hi : i < n := by simpa using hi
  exact ⟨G2, .int (lo + (i : Nat)), by simp [hi], Ext.rf S.w, S, .int _⟩
def rng (lo hi : Int) : List Int := (List.range (hi - lo).toNat).map fun i => lo + (i : Nat)
def cRng (lo hi : Int) : Bool := decide (-(2 ^ 62) ≤ lo ∧ lo < 2 ^ 62 ∧ -(2 ^ 62) ≤ hi ∧ hi < 2 ^ 62)
theorem rng_ds (lo hi : Int) : (rng lo hi).map PyData.int = (List.range (hi - lo).toNat).map fun i => PyData.int (lo + (i : Nat)) := by
  unfold rng
  rw [List.map_map]
  rfl
theorem sta_pair {K : PySem.W.Frag} {G : Gh} {H : Hp} {σ : St} {Γ : List Sl} {T : Addr} {x y : V} {d1 d2 : PyData} {fr : Bool} (S : Sta K G H σ Γ) (hT : H T = none) (h1 : Dn K (rg G fr) H x d1) (h2 : Dn K (rg G fr) H y d2) :
    ∃ G3, Ext G H G3 (upd H T (.tup [x, y])) ∧ Sta K G3 (upd H T (.tup [x, y])) σ Γ ∧ Dn K (rg G3 fr) (upd H T (.tup [x, y])) (.ref T) (.tuple [d1, d2]) := by
  obtain ⟨G3, S3, e3, h3⟩ := S.newTup (ds := [d1, d2]) hT (.cons h1 (.cons h2 .nil))
  exact ⟨G3, e3, S3, h3⟩
def enumD (ds : List PyData) : List PyData := ds.mapIdx fun i d => .tuple [.int (i : Nat), d]
theorem itd_enum {K : PySem.W.Frag} {G : Gh} {H : Hp} {a : Addr} {xs : List V} {ds : List PyData} {fr : Bool} (h : LsR K (rg G fr) a xs) (hd : DnA K (rg G fr) H xs ds) : ItD K G H (Ite K a) (enumD ds) fr := by
  have sq : ∀ G2 H2, Le G H G2 H2 → SqL K H2 a xs := fun G2 H2 e => ((h.mono (e.rgl fr)).mono (e.w.rgl fr)).sq
  have hl := hd.length
  have hl2 : (enumD ds).length = xs.length := by unfold enumD; simp [hl]
  refine ⟨fun i G2 H2 hi e => ⟨xs, xs[i]'(by rw [hl2] at hi; exact hi), sq G2 H2 e, by simp⟩, fun i G2 H2 σ Γ v H3 hi e S y => ?_, fun G2 H2 e => ⟨xs, sq G2 H2 e, by rw [hl2]; exact Nat.le_refl _⟩⟩
  obtain ⟨T, x, rfl, hT, rfl, hy⟩ := y
  obtain ⟨d, h1, h2⟩ := (e.dna hd).get (hy xs (sq G2 _ e))
  obtain ⟨G3, e3, S3, h3⟩ := sta_pair S hT (.int (i : Nat)) h2
  refine ⟨G3, _, ?_, e3, S3, h3⟩
  unfold enumD
  rw [List.getElem?_mapIdx, h1]
  rfl
def zipD (ds es : List PyData) : List PyData := List.zipWith (fun d e => .tuple [d, e]) ds es
abbrev DI := List Sl → R ((List PyData × Bool) × List Sl)
def rdIU (X : Cx) (W : WX) (Γ : List Sl) (m : R ((List PyData × Bool) × List Sl)) : TI := fun σ H Q => ∃ G, Sta X.K G H σ Γ ∧ Pst X W G H σ m fun r G' H' => ∀ J, Sta X.K G' H' σ r.2 → ItD X.K G' H' J r.1.1 r.1.2 → Q J H'
def CI (X : Cx) (W : WX) (tg iter : Expr) (f : DI) : Prop := ∀ Γ, PI X tg iter (rdIU X W Γ (f Γ))
section
variable {X : Cx} {W : WX} {sc : Scope} {N : List Str} {e e2 tg iter : Expr} {pos p : Pos} {f g : DF} {k : DA}
theorem pi_no {t : TI} (h : ∀ σ H Q, ¬ t σ H Q) : PI X tg iter t := ⟨fun pins s σ H R I z => (h _ _ _ z).elim⟩
def seqA : AV → Option (List PyData × Bool)
  | .d fr (.list ds) => some (ds, fr)
  | .d fr (.tuple ds) => some (ds, fr)
  | _ => none
def iSeq (f : DF) : DI := fun Γ => (f Γ).bind fun z => (R.ofO (seqA z.1)).bind fun y => .val (y, z.2)
theorem ci_seq (h : CE X W e f) : CI X W tg e (iSeq f) := fun Γ => by
  have h := h Γ
  unfold iSeq
  cases hf : f Γ with
  | bad => exact pi_no fun σ H Q ⟨G, S, q⟩ => q
  | exc x =>
    rw [hf] at h
    exact pi_imp (pi_list h) fun σ H Q ⟨G, S, q⟩ => ⟨G, S, q⟩
  | val z =>
    rw [hf] at h
    obtain ⟨y, Γ1⟩ := z
    cases hy : seqA y with
    | none =>
      refine pi_no fun σ H Q ⟨G, S, q⟩ => ?_
      · have q : Pst X W G H σ ((R.ofO (seqA y)).bind fun y => R.val (y, Γ1)) (fun r G' H' => ∀ J, Sta X.K G' H' σ r.2 → ItD X.K G' H' J r.1.1 r.1.2 → Q J H') := q
        rw [hy] at q
        exact q
    | some w =>
      have key : ∀ {σ H Q}, rdIU X W Γ ((R.val (y, Γ1)).bind fun z => (R.ofO (seqA z.1)).bind fun y => .val (y, z.2)) σ H Q → ∃ G, Sta X.K G H σ Γ ∧ ∀ G' H', Ext G H G' H' → ∀ J, Sta X.K G' H' σ Γ1 → ItD X.K G' H' J w.1 w.2 → Q J H' := fun {σ H Q} ⟨G, S, q⟩ => by
        have q : Pst X W G H σ ((R.ofO (seqA y)).bind fun y => R.val (y, Γ1)) (fun r G' H' => ∀ J, Sta X.K G' H' σ r.2 → ItD X.K G' H' J r.1.1 r.1.2 → Q J H') := q
        rw [hy] at q
        exact ⟨G, S, q⟩
      unfold seqA at hy
      split at hy
      · cases hy
        refine pi_imp (pi_list h) fun σ H Q z => ?_
        obtain ⟨G, S, q⟩ := key z
        refine ⟨G, S, fun G' H' e' v S' a => ?_⟩
        obtain ⟨l, xs, rfl, h1, h2⟩ := dn_list a
        exact ⟨l, rfl, ⟨xs, (h1.mono (S'.w.rgl _)).sq⟩, q G' H' e' _ S' (itd_list h1 h2)⟩
      · cases hy
        refine pi_imp (pi_tup h) fun σ H Q z => ?_
        obtain ⟨G, S, q⟩ := key z
        refine ⟨G, S, fun G' H' e' v S' a => ?_⟩
        obtain ⟨l, xs, rfl, h1, h2⟩ := dn_tupleH a
        exact ⟨l, rfl, ⟨xs, SqT.of h1⟩, q G' H' e' _ S' (itd_tup h1 h2)⟩
      · cases hy
theorem avs_one {K : PySem.W.Frag} {G : Gh} {H : Hp} {σ : St} {vs : List V} {a : AV} (h : AVs K G H σ vs [a]) : ∃ v, vs = [v] ∧ AVok K G H σ v a := by
  cases h with
  | cons h r => cases r; exact ⟨_, rfl, h⟩
theorem avs_two {K : PySem.W.Frag} {G : Gh} {H : Hp} {σ : St} {vs : List V} {a b : AV} (h : AVs K G H σ vs [a, b]) : ∃ v u, vs = [v, u] ∧ AVok K G H σ v a ∧ AVok K G H σ u b := by
  cases h with
  | cons h r =>
    obtain ⟨u, rfl, h2⟩ := avs_one r
    exact ⟨_, u, rfl, h, h2⟩
def intA : AV → Option Int
  | .d _ (.int i) => some i
  | _ => none
theorem intA_ok {K : PySem.W.Frag} {G : Gh} {H : Hp} {σ : St} {v : V} {a : AV} {i : Int} (h : intA a = some i) (hv : AVok K G H σ v a) : v = .int i := by
  unfold intA at h
  split at h
  · cases h; exact dn_int hv
  · cases h
theorem Pst.ofO {G : Gh} {H : Hp} {σ : St} {α τ : Type} {o : Option α} {k : α → R τ} {P : τ → Gh → Hp → Prop} (h : Pst X W G H σ ((R.ofO o).bind k) P) : ∃ x, o = some x ∧ Pst X W G H σ (k x) P := by
  cases o with
  | none => exact h.elim
  | some x => exact ⟨x, rfl, h⟩
theorem Pst.req {G : Gh} {H : Hp} {σ : St} {τ : Type} {c : Bool} {m : R τ} {P : τ → Gh → Hp → Prop} (h : Pst X W G H σ ((R.req c).bind fun _ => m) P) : c = true ∧ Pst X W G H σ m P := by
  cases c with
  | false => exact h.elim
  | true => exact ⟨rfl, h⟩
theorem Pst.gq {G : Gh} {H : Hp} {σ : St} {τ : Type} {c : Bool} {a : τ} {P : τ → Gh → Hp → Prop} (w : Wf G H) (h : Pst X W G H σ (gq c a) P) : c = true ∧ P a G H := by
  obtain ⟨h1, h2⟩ := Pst.req h
  exact ⟨h1, h2 G H (Ext.rf w)⟩
def iRange1 (f : DF) : DI := fun Γ => (f Γ).bind fun z => (R.ofO (intA z.1)).bind fun j => gq (cRng 0 j) (((rng 0 j).map PyData.int, true), z.2)
theorem ci_range1 (C : Cf0 X W sc N) (hg : glB sc "range" = true) (hm : X.mg "range" = none) (ha : CE X W e f) (hst : starEach [e] X.env = [(false, eval e X.env)] := by rfl) : CI X W tg (.Call (.Name "range" p) [e] [] pos) (iRange1 f) := fun Γ =>
  pi_imp (pi_range1 (C.gl hg) hm (pa_cons (ha Γ) pa_nil (by rw [hst]; rfl)) hst) fun σ H Q ⟨G, S, q⟩ => ⟨G, S, (Pst.bind q).imp fun z G1 H1 e1 p1 v S1 av => by
    obtain ⟨j, hj, p1⟩ := Pst.ofO p1
    obtain ⟨c, p1⟩ := Pst.gq S1.w p1
    have c := of_decide_eq_true c
    exact ⟨j, by rw [intA_ok hj av], c.2.2.1, c.2.2.2, p1 _ S1 (by rw [show j.toNat = (j - 0).toNat by simp]; exact itd_range (rng_ds 0 j))⟩⟩
def iRange2 (f g : DF) : DI := fun Γ => (f Γ).bind fun z => (g z.2).bind fun y => (R.ofO (intA z.1)).bind fun i => (R.ofO (intA y.1)).bind fun j => gq (cRng i j) (((rng i j).map PyData.int, true), y.2)
end
end PD
set_option Elab.async false
set_option linter.all false
set_option maxRecDepth 100000
set_option maxHeartbeats 4000000
set_option autoImplicit false
namespace PD
open PySem L2
open Sem (wp)
theorem enumT_new {v : Value} {ob : Obj} {Z : Heap → Prop} (B : Begins v ob Z) :
    Meets (Builtin.«enumerate.__new__» ⟨[.type "enumerate", v], []⟩) (fun _ R s => Z s.heap ∧ R (.ok (.ret (.ref (s.heap.push ob).objs.size)))
      { s with heap := (s.heap.push ob).push { cls := .type "enumerate", data := .fields #[.none, .bool false, .ref s.heap.objs.size, rawInt 0, .none, .none] } }) :=
  .of_wp fun prog w A R s h => by
    obtain ⟨hp, g, d, tk, os⟩ := s
    obtain ⟨z1, z2⟩ := h
    have z3 := sub_enumerate
    have z4 : ∀ {A' : Around} {E : Value → Shared → Prop} {Q : Value → Shared → Prop}, Q (.ref hp.objs.size) ⟨hp.push ob, g, d, tk, os⟩ → wpAny (model prog w) A' (pyIter v) Q E ⟨hp, g, d, tk, os⟩ :=
      fun q => B.iter prog w _ _ ⟨hp, g, d, tk, os⟩ _ z1 q
    wp_walk using z4
    refine wpAny_stack_any fun z5 => wpAny_pure ?_
    split
    · rename_i y _ _ _ _ _
      cases (y == Value.type "enumerate") <;> (wp_walk using z4) <;> exact ⟨_, rfl, z2⟩
    · wp_walk using z4
      exact ⟨_, rfl, z2⟩
theorem enumT_call {prog : Program} {w : World} {A : Around} {E : Value → Shared → Prop} {s : Shared} {v : Value} {ob : Obj} {Z : Heap → Prop} {Q : Value → Shared → Prop} (B : Begins v ob Z) (h1 : Z s.heap)
    (h : ∀ h', IsEnum h' (s.heap.objs.size + 1) s.heap.objs.size 0 .none → h'.get? s.heap.objs.size = some ob → h'.objs.size = s.heap.objs.size + 2 →
      (∀ b o, s.heap.get? b = some o → h'.get? b = some o) → Q (.ref (s.heap.objs.size + 1)) { s with heap := h' }) :
    wpAny (model prog w) A (call (.type "enumerate") [v]) Q E s := by
  refine callType_new F.called_enumerate (by decide) (F.typeCall_enumerate_1 _) (F.newCall_enumerate_1 _) (fun z => F.args_object_init_2 z _) F.entry_enumerate_new (enumT_new B) ⟨h1, ?_⟩
  have hz : (s.heap.push ob).objs.size = s.heap.objs.size + 1 := Heap.size_push ..
  show _ ∧ _
  rw [hz]
  have he : IsEnum ((s.heap.push ob).push { cls := .type "enumerate", data := .fields #[.none, .bool false, .ref s.heap.objs.size, rawInt 0, .none, .none] }) (s.heap.objs.size + 1) s.heap.objs.size 0 .none := by
    have q := Heap.get?_push_size (s.heap.push ob) (o := { cls := .type "enumerate", data := .fields #[.none, .bool false, .ref s.heap.objs.size, rawInt 0, .none, .none] }) rfl
    rw [hz] at q
    exact q
  exact ⟨⟨_, he, rfl⟩, h _ he (Heap.get?_push_of_some _ (Heap.get?_push_size _ B.free)) (by rw [Heap.size_push, hz]) fun b o x => Heap.get?_push_of_some _ (Heap.get?_push_of_some _ x)⟩
def IteT (K : PySem.W.Frag) (a : Addr) : It :=
  ⟨fun i H => ∃ (xs : List V) (x : V), SqT K H a xs ∧ xs[i]? = some x, fun i H v H' => ∃ T x, v = .ref T ∧ H T = none ∧ H' = upd H T (.tup [.int (i : Nat), x]) ∧ ∀ xs, SqT K H a xs → xs[i]? = some x, fun i H => ∃ xs : List V, SqT K H a xs ∧ xs.length ≤ i⟩
theorem turn_enumT {P : Program} {w : World} {K : PySem.W.Frag} {elts : List Expr} {kk : Nat} {tpos : Pos} (a e it : Addr) :
    Turn P w K (.Tuple elts kk tpos) (IteT K a) [e, it] e (fun i h => (∃ old, IsEnum h e it ((i : Nat) : Int) old) ∧ h.IsTupleIter it a i ∧ e ≠ it) where
  mem := by simp
  obj := fun i h st b hb => by
    obtain ⟨⟨old, he⟩, ⟨o, ho, hc, hd⟩, _⟩ := st
    rcases (show b = e ∨ b = it by simpa using hb) with z | z <;> rw [z]
    · exact ⟨_, he, fun v q => nomatch q⟩
    · exact ⟨o, ho, fun v q => by rw [hd] at q; cases q⟩
  keep := fun i h h' st k => ⟨⟨st.1.choose, k e (by simp) _ st.1.choose_spec⟩, st.2.1.at fun o q => k it (by simp) o q, st.2.2⟩
  item := by
    intro X hP hw hK hc i pins s σ H E I hf st hg
    subst hP hw hK
    obtain ⟨⟨old, he⟩, hit, hne⟩ := st
    obtain ⟨xs, x, hq, hx⟩ := hg
    obtain ⟨its, rv, pt, hz⟩ := I.tuple hq
    have pt : s.heap.IsTuple a its.toArray := pt
    obtain ⟨u, hu, ru⟩ := rv.get hx
    have hel : e < s.heap.objs.size := Heap.lt_size he
    have hil : it < s.heap.objs.size := hit.elim fun o q => Heap.lt_size q.1
    have ha1 : a ≠ it := by
      rintro rfl
      obtain ⟨o1, q1, q2, _⟩ := hit
      obtain ⟨o2, q3, q4, _⟩ := pt
      rw [q1] at q3; cases q3
      rw [q2] at q4; exact absurd (Value.type.inj q4) (by decide)
    have ha2 : e ∉ [it, a] := by
      intro z
      rcases (show e = it ∨ e = a by simpa using z) with z | z
      · exact hne z
      · obtain ⟨o2, q3, q4, _⟩ := pt
        rw [← z, he] at q3; cases q3
        exact absurd (Value.type.inj q4) (by decide)
    have D := Draws.tuple (prog := X.prog) (w := X.w) (A := X.A.in1) (I.ok.hd hc) it a ha1 its.toArray
    refine wpAny_pyNext_enum_itemD D he ⟨hit, pt⟩ (i := i) ?_ hne ha2 fun y h' tk hy ho hit' hT hsz hk => ?_
    · have := List.getElem?_eq_some_iff.mp hu
      simpa using this.1
    obtain rfl : y = u := by
      have : its[i]? = some y := by simpa using hy
      rw [hu] at this; cases this; rfl
    refine ⟨_, rfl, wpAny_letOwnedTupleGo_enum (s := { s with heap := h', toks := tk + 1 }) ho fun h'' he' sb => ?_⟩
    have hT2 : h''.get? s.heap.objs.size = some { cls := .type "tuple", data := .seq #[.int i tk, y] } := (sb.2 _ (Nat.ne_of_gt hel)).trans hT
    have new : ObjOk X.prog X.w (upd H s.heap.objs.size (.tup [.int (i : Nat), x])) h'' s.heap.objs.size (.tup [.int (i : Nat), x]) :=
      ⟨by show 2 ≤ sizeLine; decide, [.int i tk, y], .cons ⟨_, rfl⟩ (.cons ru .nil), ⟨_, hT2, rfl, _, rfl⟩⟩
    have I1 : Inv X pins σ (upd H s.heap.objs.size (.tup [.int (i : Nat), x])) { s with heap := h'', toks := tk + 1 } :=
      I.turnedNew (ch := [e, it]) (fun b ob hb q => (sb.2 b (fun z => hb (by simp [z]))).trans (hk b ob (fun z => hb (by simp [z])) (fun z => hb (by simp [z])) q)) hf (Nat.le_refl _) new
    refine ⟨.ref s.heap.objs.size, _, I1, rfl, ⟨_, x, rfl, I.hok.fresh (Nat.le_refl _), rfl, fun ys hy => by rw [I.tuple_inj hy hq]; exact hx⟩, ⟨⟨y, ?_⟩, hit'.1.at fun o q => (sb.2 it (Ne.symm hne)).trans q, hne⟩, fun b hb => ?_⟩
    · rw [show ((i + 1 : Nat) : Int) = (i : Int) + 1 by omega]
      exact he'
    · have hb' : b < s.heap.objs.size := by
        rcases (show b = e ∨ b = it by simpa using hb) with z | z <;> rw [z] <;> assumption
      rw [upd_ne (Nat.ne_of_lt hb')]
      exact (hf b hb).1
  done := by
    intro X hP hw hK hc i pins s σ H E I hf st hg
    subst hP hw hK
    obtain ⟨⟨old, he⟩, hit, hne⟩ := st
    obtain ⟨xs, hq, hx⟩ := hg
    obtain ⟨its, rv, pt, hz⟩ := I.tuple hq
    have pt : s.heap.IsTuple a its.toArray := pt
    obtain ⟨f0, f1, f2, f3, f4, f5⟩ := hf it (by simp)
    have hl := rv.length
    have hT : s.TypeIs (.ref e) "enumerate" := ⟨_, he, rfl⟩
    unfold pyNext
    refine wpAny_bind (wpAny_attempt (wpAny_callSpecial?_slot (name := Str.ofString "__next__") hT F.slot_enumerate_next (wpAny_call_entry F.slot_enumerate_next hT F.entry_enumerate_next ?_ (F.args_enumerate_next_1 _))))
    show wpAny _ _ (PySem.field (.ref e) 2 >>= _) _ _ _
    refine wpAny_bind (wpAny_field he rfl (x := .ref it) rfl ?_)
    refine wpAny_bind (wpAny_nextOf_tuple_end (I.ok.hd hc) hit pt (by simp; omega) fun h' x eb hx' => ?_)
    obtain ⟨o, ho, hcl⟩ := hx'
    refine wpAny_bind (wpAny_isInstance (T := "StopIteration") (b := true) ⟨o, ho, hcl⟩ isSubtype_stop ?_)
    exact wpAny_pure ⟨rfl, I.turned (t' := s.toks) (fun b o hb q => eb b o hb q) f0 f1 f3 f4 f5⟩
  self := fun A i s Q E st h => let ⟨⟨_, he⟩, _⟩ := st; wpAny_pyIter_enum he h
theorem pi_enumT {X : Cx} {e : Expr} {ta : TA} {p pos tpos : Pos} {elts : List Expr} {kk : Nat} (hg : Gl X "enumerate") (hm : X.mg "enumerate" = none) (ha : PA X [e] ta) (hs : starEach [e] X.env = [(false, eval e X.env)] := by rfl) :
    PI X (.Tuple elts kk tpos) (.Call (.Name "enumerate" p) [e] [] pos) (fun σ H R => ta σ H fun vs H1 => ∃ a xs, vs = [.ref a] ∧ SqT X.K H1 a xs ∧ R (IteT X.K a) H1) := by
  refine ⟨fun pins s σ H R I h => ?_⟩
  refine PyProof.Rows.Call_ (ld_blt I hg hm (show bootBuiltins "enumerate" = some (.type "enumerate") by kernel_rfl) (PyProof.Rows.callWith_type1 (thn (ha.run pos pins s σ H _ I h) fun us s1 ⟨vs, H1, I1, r1, q1⟩ => ?_) hs rfl))
  obtain ⟨a, xs, ex, hq, q⟩ := q1
  subst ex
  cases r1 with
  | cons r rr =>
    cases rr
    cases r
    obtain ⟨its, rv, pt, hz⟩ := I1.tuple hq
    refine enumT_call (begins_tuple a its.toArray) pt fun h' he hit hsz hk => wpAny_pyIter_enum he ?_
    have I2 : Inv X pins σ H1 { s1 with heap := h' } := I1.kept (t' := s1.toks) hk
    refine ⟨s1.heap.objs.size + 1, [s1.heap.objs.size + 1, s1.heap.objs.size], _, _, H1, rfl, I2, turn_enumT a (s1.heap.objs.size + 1) s1.heap.objs.size, ⟨⟨.none, he⟩, ⟨_, hit, rfl, rfl⟩, Nat.succ_ne_self _⟩, fun b hb => ?_, q⟩
    have hle : s1.heap.objs.size ≤ b := by
      rcases (show b = s1.heap.objs.size + 1 ∨ b = s1.heap.objs.size by simpa using hb) with z | z <;> rw [z]
      · exact Nat.le_add_right _ _
      · exact Nat.le_refl _
    exact I1.fpOk hle (I1.hok.fresh hle)
theorem itd_enumT {K : PySem.W.Frag} {G : Gh} {H : Hp} {a : Addr} {xs : List V} {ds : List PyData} {fr : Bool} (h : H a = some (.tup xs)) (hd : DnA K (rg G fr) H xs ds) : ItD K G H (IteT K a) (enumD ds) fr := by
  have sq : ∀ G2 H2, Le G H G2 H2 → SqT K H2 a xs := fun G2 H2 e => SqT.of (e.t _ _ h)
  have hl := hd.length
  have hl2 : (enumD ds).length = xs.length := by unfold enumD; simp [hl]
  refine ⟨fun i G2 H2 hi e => ⟨xs, xs[i]'(by rw [hl2] at hi; exact hi), sq G2 H2 e, by simp⟩, fun i G2 H2 σ Γ v H3 hi e S y => ?_, fun G2 H2 e => ⟨xs, sq G2 H2 e, by rw [hl2]; exact Nat.le_refl _⟩⟩
  obtain ⟨T, x, rfl, hT, rfl, hy⟩ := y
  obtain ⟨d, h1, h2⟩ := (e.dna hd).get (hy xs (sq G2 _ e))
  obtain ⟨G3, e3, S3, h3⟩ := sta_pair S hT (.int (i : Nat)) h2
  refine ⟨G3, _, ?_, e3, S3, h3⟩
  unfold enumD
  rw [List.getElem?_mapIdx, h1]
  rfl
section
variable {X : Cx} {W : WX} {sc : Scope} {N : List Str} {e e2 tg iter : Expr} {pos p : Pos} {f g : DF} {k : DA}
def iEnum (f : DF) : DI := fun Γ => (f Γ).bind fun z => (R.ofO (seqA z.1)).bind fun y => .val ((enumD y.1, y.2), z.2)
theorem ci_enum (C : Cf0 X W sc N) {elts : List Expr} {kk : Nat} {tpos : Pos} (hg : glB sc "enumerate" = true) (hm : X.mg "enumerate" = none) (h : CE X W e f) (hst : starEach [e] X.env = [(false, eval e X.env)] := by rfl) : CI X W (.Tuple elts kk tpos) (.Call (.Name "enumerate" p) [e] [] pos) (iEnum f) := fun Γ => by
  have h := h Γ
  unfold iEnum
  cases hf : f Γ with
  | bad => exact pi_no fun σ H Q ⟨G, S, q⟩ => q
  | exc x =>
    rw [hf] at h
    exact pi_imp (pi_enum (C.gl hg) hm (pa_cons h pa_nil (by rw [hst]; rfl)) hst) fun σ H Q ⟨G, S, q⟩ => ⟨G, S, q⟩
  | val z =>
    rw [hf] at h
    obtain ⟨y, Γ1⟩ := z
    cases hy : seqA y with
    | none =>
      refine pi_no fun σ H Q ⟨G, S, q⟩ => ?_
      · obtain ⟨_, hq, _⟩ := Pst.ofO (show Pst X W G H σ ((R.ofO (seqA y)).bind fun y => R.val ((enumD y.1, y.2), Γ1)) _ from q)
        rw [hy] at hq
        cases hq
    | some w =>
      have key : ∀ {σ H Q}, rdIU X W Γ ((R.val (y, Γ1)).bind fun z => (R.ofO (seqA z.1)).bind fun y => .val ((enumD y.1, y.2), z.2)) σ H Q → ∃ G, Sta X.K G H σ Γ ∧ ∀ G' H', Ext G H G' H' → ∀ J, Sta X.K G' H' σ Γ1 → ItD X.K G' H' J (enumD w.1) w.2 → Q J H' := fun {σ H Q} ⟨G, S, q⟩ => by
        obtain ⟨_, hq, q⟩ := Pst.ofO (show Pst X W G H σ ((R.ofO (seqA y)).bind fun y => R.val ((enumD y.1, y.2), Γ1)) _ from q)
        rw [hy] at hq
        cases hq
        exact ⟨G, S, q⟩
      unfold seqA at hy
      split at hy
      · cases hy
        refine pi_imp (pi_enum (C.gl hg) hm (pa_cons h pa_nil (by rw [hst]; rfl)) hst) fun σ H Q z => ?_
        obtain ⟨G, S, q⟩ := key z
        refine ⟨G, S, fun G' H' e' v S' a => ?_⟩
        obtain ⟨l, xs, rfl, h1, h2⟩ := dn_list a
        exact ⟨l, xs, rfl, (h1.mono (S'.w.rgl _)).sq, q G' H' e' _ S' (itd_enum h1 h2)⟩
      · cases hy
        refine pi_imp (pi_enumT (C.gl hg) hm (pa_cons h pa_nil (by rw [hst]; rfl)) hst) fun σ H Q z => ?_
        obtain ⟨G, S, q⟩ := key z
        refine ⟨G, S, fun G' H' e' v S' a => ?_⟩
        obtain ⟨l, xs, rfl, h1, h2⟩ := dn_tupleH a
        exact ⟨l, xs, rfl, SqT.of h1, q G' H' e' _ S' (itd_enumT h1 h2)⟩
      · cases hy
def loopU (is : List Nat) (g : DG) (fr : Bool) (b : DS) : List PyData → List Sl → R (Fw × List Sl)
  | [], Γ => .val (.nx, wipeG Γ is)
  | d :: ds, Γ => (R.ofO (g fr d (wipeG Γ is))).bind fun Γ1 => (b Γ1).bind fun z => match z.1 with
    | .nx => loopU is g fr b ds z.2
    | .ct => loopU is g fr b ds z.2
    | .bk => .val (.nx, wipeG z.2 is)
    | .rt r => .val (.rt r, z.2)
def bFor (is : List Nat) (g : DG) (it : DI) (b : DS) : DS := fun Γ => (it Γ).bind fun z => loopU is g z.1.2 b z.1.1 z.2
theorem c1_for (C : Cf X W sc N) (is : List Nat) {body : List Stmt} {it : DI} {ts : List Nat} {gg : DG} {b : DS} (hi : CI X W tg iter it) (hg : CG X tg ts gg) (hb : CS X W body b) (hs : ∀ x, foldedSetIterable iter X.env x = pure x := by intro _; rfl) : C1 X W (.For tg iter body [] pos) (bFor is gg it b) := fun Γ => by
  refine ps_imp (ps_for C.pass C.calm (hi Γ) hg (pss_any fun Γ1 => hb Γ1) hs) fun D σ H ⟨G, S0, q⟩ => ⟨G, S0, (Pst.bind q).imp fun r G1 H1 e1 p1 J S1 I => ?_⟩
  obtain ⟨⟨items, fr⟩, Γ1⟩ := r
  have p1 : Pst X W G1 H1 σ (loopU is gg fr b items Γ1) fun z G' H' => FinU X.K G' H' D z.2 z.1 := p1
  have I : ItD X.K G1 H1 J items fr := I
  let P : Fw × List Sl → Gh → Hp → Prop := fun z G' H' => FinU X.K G' H' D z.2 z.1
  refine ⟨fun i m σ H => m = items.length - i ∧ i ≤ items.length ∧ ∃ G Γ2, Ext G1 H1 G H ∧ Sta X.K G H σ Γ2 ∧ Pst X W G H σ (loopU is gg fr b (items.drop i) Γ2) P, ⟨_, rfl, Nat.zero_le _, G1, Γ1, Ext.rf S1.w, S1, p1⟩, ?_⟩
  rintro i m σ2 H2 ⟨rfl, hi2, G2, Γ2, e2, S2, p2⟩
  by_cases hlt : i < items.length
  · rw [List.drop_eq_getElem_cons hlt] at p2
    unfold loopU at p2
    obtain ⟨Γ3, hg3, p3⟩ := Pst.ofO p2
    refine .inr ⟨I.go i G2 H2 hlt e2.le, fun σ' H' => ∃ G4 Γ4, Ext G1 H1 G4 H' ∧ Sta X.K G4 H' σ' Γ4 ∧ Pst X W G4 H' σ' (loopU is gg fr b (items.drop (i + 1)) Γ4) P, fun σ' H' ⟨G4, Γ4, q1, q2, q3⟩ => ⟨_, ?_, rfl, hlt, G4, Γ4, q1, q2, q3⟩, fun v H3 y => ?_⟩
    · omega
    · obtain ⟨G3, d, hd, e3, S3, dn⟩ := I.yl i G2 H2 σ2 _ v H3 hlt e2.le S2 y
      have hx : d = items[i] := by
        rw [List.getElem?_eq_getElem hlt] at hd
        exact (Option.some.inj hd).symm
      subst hx
      refine ⟨G3, wipeG Γ2 is, fr, items[i], Γ3, S3.wipe is, dn, hg3, fun σ4 _ _ S4 => ⟨Γ3, G3, S4, (Pst.bind (Pst.ext p3 e3)).imp fun z G5 H5 e5 p5 => ?_⟩⟩
      have e15 : Ext G1 H1 G5 H5 := (e2.tr e3).tr e5
      obtain ⟨w, Γ5⟩ := z
      cases w with
      | nx => exact fun σ6 S6 => ⟨G5, Γ5, e15, S6, p5⟩
      | ct => exact fun σ6 S6 => ⟨G5, Γ5, e15, S6, p5⟩
      | bk => exact fun σ6 S6 => p5 G5 H5 (Ext.rf S6.w) σ6 (S6.wipe is)
      | rt r =>
        have q : FinU X.K G5 H5 D Γ5 (.rt r) := p5 G5 H5 (Ext.rf e5.w)
        cases r with
        | d x => exact q
        | c x => exact q
  · have e : i = items.length := by omega
    subst e
    refine .inl ⟨I.st G2 H2 e2.le, ?_⟩
    rw [List.drop_length] at p2
    exact p2 G2 H2 (Ext.rf S2.w) σ2 (S2.wipe is)
def loopW (is : List Nat) (c : DT) (b : DS) : Nat → List Sl → R (Fw × List Sl)
  | 0, _ => .bad
  | n + 1, Γ => (c (wipeG Γ is)).bind fun x => if x.1 then (b x.2).bind fun z => match z.1 with
      | .nx => loopW is c b n z.2
      | .ct => loopW is c b n z.2
      | .bk => .val (.nx, wipeG z.2 is)
      | .rt r => .val (.rt r, z.2)
    else .val (.nx, x.2)
def bWhile (is : List Nat) (fuel : List Sl → Nat) (c : DT) (b : DS) : DS := fun Γ => loopW is c b (fuel Γ) Γ
theorem c1_while (C : Cf0 X W sc N) (is : List Nat) (fuel : List Sl → Nat) {test : Expr} {body : List Stmt} {c : DT} {b : DS} (hc : CT X W test c) (hb : CS X W body b) : C1 X W (.While test body [] pos) (bWhile is fuel c b) := fun Γ => by
  refine ps_imp (ps_while C.pass (pt_any fun Γ1 => hc Γ1) (pss_any fun Γ1 => hb Γ1)) fun D σ H ⟨G1, S1, p1⟩ => ?_
  let P : Fw × List Sl → Gh → Hp → Prop := fun z G' H' => FinU X.K G' H' D z.2 z.1
  let Wh : Nat → St → Hp → Prop := fun m σ H => ∃ G Γ2, Sta X.K G H σ Γ2 ∧ Pst X W G H σ (loopW is c b m Γ2) P
  refine ⟨Wh, ⟨fuel Γ, G1, Γ, S1, p1⟩, ?_⟩
  rintro m σ2 H2 ⟨G2, Γ2, S2, p2⟩
  cases m with
  | zero => exact p2.elim
  | succ m =>
    unfold loopW at p2
    refine ⟨wipeG Γ2 is, G2, S2.wipe is, (Pst.bind p2).imp fun x G3 H3 e3 p3 S3 => ?_⟩
    obtain ⟨z, Γ3⟩ := x
    cases z with
    | false => exact itF (p3 G3 H3 (Ext.rf S3.w) σ2 S3)
    | true =>
      refine itT ⟨Wh m, fun σ' H' h => ⟨m, Nat.lt_succ_self m, h⟩, Γ3, G3, S3, (Pst.bind (show Pst X W G3 H3 σ2 ((b Γ3).bind fun z => match z.1 with
      | .nx => loopW is c b m z.2
      | .ct => loopW is c b m z.2
      | .bk => .val (.nx, wipeG z.2 is)
      | .rt r => .val (.rt r, z.2)) P from p3)).imp fun z G5 H5 e5 p5 => ?_⟩
      obtain ⟨w, Γ5⟩ := z
      cases w with
      | nx => exact fun σ6 S6 => ⟨G5, Γ5, S6, p5⟩
      | ct => exact fun σ6 S6 => ⟨G5, Γ5, S6, p5⟩
      | bk => exact fun σ6 S6 => p5 G5 H5 (Ext.rf S6.w) σ6 (S6.wipe is)
      | rt r =>
        have q : FinU X.K G5 H5 D Γ5 (.rt r) := p5 G5 H5 (Ext.rf e5.w)
        cases r with
        | d x => exact q
        | c x => exact q
end
end PD
set_option Elab.async false
set_option linter.all false
set_option maxRecDepth 100000
set_option maxHeartbeats 4000000
set_option autoImplicit false
namespace PD
open PySem L2
abbrev RN (N : Hp) : Rg := fun a o => N a = some o
def NewIn (B N H H' : Hp) : Prop := ∀ a o, N a = some o → H' a = some o ∧ (H a = none ∨ B a = some o)
inductive Ar where
  | d (x : PyData)
  | n (x : PyData)
  | c (x : Cl)
def Cl.fl (_ : Cl) : Bool := true
structure ArgsU (K : PySem.W.Frag) (H : Hp) (vs : List V) (as : List Ar) (F : Nat → List Addr) (L : List Addr) (B : Hp) : Prop where
  len : vs.length = as.length
  dat : ∀ (i : Nat) (x : PyData), as[i]? = some (Ar.d x) → ∃ v, vs[i]? = some v ∧ Dn K (fun a o => H a = some o ∧ a ∉ L) H v x
  cel : ∀ (i : Nat) (c : Cl), as[i]? = some (Ar.c c) → ∃ v, vs[i]? = some v ∧ c.ok K (RN B) H v (F i)
  emp : ∀ i : Nat, (∀ c, as[i]? ≠ some (Ar.c c)) → F i = []
  all : ∀ i p, p ∈ F i → p ∈ L
  al : ∀ p, p ∈ L → H p ≠ none
  dj : ∀ i j p, p ∈ F i → p ∈ F j → i = j
  nat : ∀ (i : Nat) (x : PyData), as[i]? = some (Ar.n x) → ∃ v, vs[i]? = some v ∧ Dn K (RN B) H v x
  bok : ∀ a o, B a = some o → H a = some o ∧ a ∉ L
structure PostU (K : PySem.W.Frag) (H : Hp) (vs : List V) (F : Nat → List Addr) (L : List Addr) (B : Hp) (H' N : Hp) (Z : List Sl) (F' : Nat → List Addr) : Prop where
  keep : ∀ a o, H a = some o → a ∉ L → H' a = some o
  pal : ∀ a, a ∈ L → H' a ≠ none
  t : TupLe H H'
  new : NewIn B N H H'
  cel : ∀ (i : Nat) (c : Cl), Z[i]? = some (Sl.io c) → ∃ v, vs[i]? = some v ∧ c.ok K (RN N) H' v (F' i)
  al : ∀ i p, p ∈ F' i → H' p ≠ none ∧ N p = none ∧ (p ∈ L ∨ H p = none)
  dj : ∀ i j p, p ∈ F' i → p ∈ F' j → i = j
def RsOk (K : PySem.W.Frag) (N H' : Hp) (Q : VK) : Rs → Prop
  | .d d => ∀ v, Dn K (RN N) H' v d → Q v H'
  | .c c => ∀ v H2, NewC K (RN N) H' c v H2 → Q v H2
def spU (K : PySem.W.Frag) (mg : Str → Option Value) (m : List Ar → R (Rs × List Sl)) : Sp := fun vs H Q E => ∃ as F L B, ArgsU K H vs as F L B ∧ match m as with
  | .bad => False
  | .exc x => ∀ H' N F' C d, PostU K H vs F L B H' N x.st F' → mg x.cls = some (.ref C) → XdOk K (RN N) H' d x.flds → E (.ref C) d H'
  | .val z => ∀ H' N F', PostU K H vs F L B H' N z.2 F' → RsOk K N H' Q z.1
def scD : PyData → Bool
  | .none => true
  | .bool _ => true
  | .int _ => true
  | .str _ => true
  | _ => false
theorem scD_flat {d : PyData} (h : scD d = true) : flat d = true := by cases d <;> first | rfl | cases h
def arS : Ar → Sl
  | .d x => .dat (scD x) x
  | .n x => .dat true x
  | .c c => .io c
def initS (n : Nat) (as : List Ar) : List Sl := as.map arS ++ List.replicate (n - as.length) .un
def cellsAt : List Ar → List Sl → Option (List Sl)
  | [], _ => some []
  | .d _ :: as, _ :: Γ => (cellsAt as Γ).map (.un :: ·)
  | .n _ :: as, _ :: Γ => (cellsAt as Γ).map (.un :: ·)
  | .c _ :: as, .io c :: Γ => (cellsAt as Γ).map (.io c :: ·)
  | _, _ => none
theorem cellsAt_get : ∀ {as : List Ar} {Γ Z : List Sl} {i : Nat} {c : Cl}, cellsAt as Γ = some Z → Z[i]? = some (.io c) → Γ[i]? = some (.io c) ∧ ∃ c0, as[i]? = some (.c c0)
  | [], Γ, Z, i, c, h, hz => by
    cases h
    simp at hz
  | .d x :: as, [], Z, i, c, h, hz => by cases h
  | .d x :: as, g :: Γ, Z, i, c, h, hz => by
    have h : (cellsAt as Γ).map (.un :: ·) = some Z := h
    cases e : cellsAt as Γ with
    | none => rw [e] at h; cases h
    | some Y =>
      rw [e] at h
      cases h
      cases i with
      | zero => simp at hz
      | succ i => exact cellsAt_get (i := i) e (by simpa using hz)
  | .n x :: as, [], Z, i, c, h, hz => by cases h
  | .n x :: as, g :: Γ, Z, i, c, h, hz => by
    have h : (cellsAt as Γ).map (.un :: ·) = some Z := h
    cases e : cellsAt as Γ with
    | none => rw [e] at h; cases h
    | some Y =>
      rw [e] at h
      cases h
      cases i with
      | zero => simp at hz
      | succ i => exact cellsAt_get (i := i) e (by simpa using hz)
  | .c x :: as, [], Z, i, c, h, hz => by cases h
  | .c x :: as, .io q :: Γ, Z, i, c, h, hz => by
    have h : (cellsAt as Γ).map (.io q :: ·) = some Z := h
    cases e : cellsAt as Γ with
    | none => rw [e] at h; cases h
    | some Y =>
      rw [e] at h
      cases h
      cases i with
      | zero => exact ⟨hz, x, rfl⟩
      | succ i => exact cellsAt_get (i := i) e (by simpa using hz)
  | .c x :: as, .un :: Γ, Z, i, c, h, hz => by cases h
  | .c x :: as, .dat _ _ :: Γ, Z, i, c, h, hz => by cases h
  | .c x :: as, .own _ :: Γ, Z, i, c, h, hz => by cases h
def fwR : Fw → Option Rs
  | .nx => some (.d .none)
  | .rt r => some r
  | _ => none
def endB (as : List Ar) : R (Fw × List Sl) → R (Rs × List Sl)
  | .bad => .bad
  | .exc x => (R.ofO (cellsAt as x.st)).bind fun Z => .exc ⟨x.cls, x.flds, Z⟩
  | .val z => (R.ofO (fwR z.1)).bind fun r => (R.ofO (cellsAt as z.2)).bind fun Z => .val (r, Z)
@[irreducible] def runB (n np : Nat) (b : DS) (as : List Ar) : R (Rs × List Sl) := (R.req (as.length == np)).bind fun _ => endB as (b (initS n as))
theorem start_get {N : List Str} {vs : List V} {i : Nat} (h : i < vs.length) : (L2.start N vs)[i]? = (vs.map some)[i]? := by
  unfold L2.start
  rw [List.getElem?_append_left (by simpa using h)]
section
variable {P : Program} {w : World} {K : PySem.W.Frag} {mg : Str → Option Value} {base : Heap} {x qual : Str} {params : Arguments} {body : List Stmt} {scope : Scope} {dvs : List V} {kws : List (Str × V)} {f : Addr} {fd : FuncData} {N ps : List Str} {k : Nat}
structure Here (X : Cx) (W : WX) (P : Program) (w : World) (K : PySem.W.Frag) (mg : Str → Option Value) (base : Heap) (scope : Scope) (N : List Str) (k : Nat) : Prop where
  cf : Cf X W scope N
  prog : X.prog = P
  w : X.w = w
  K : X.K = K
  mg : X.mg = mg
  base : X.base = base
  room : Room k X.A
  fn : ∀ x, X.fn x = true
  stk : X.stack = X.env :: X.outer
  frm : X.env.frame = some X.env.locals
theorem here_of (S : FnScope N ps scope) {cdv : Value} {A : Around} {outer : List Env} {s : Shared} {H : Hp} {E : XK} (hr : Room k (A.deeper (PyProof.Rows.envOfC qual scope s.heap.objs.size f cdv))) :
    Here (cxOf (L2.CX P w) P w K mg base N qual scope f cdv A outer s H E) (fun cls d _ H => E cls d H) P w K mg base scope N k := by
  refine ⟨⟨⟨rfl, rfl, S.nd, takes_of rfl rfl rfl rfl, ?_, passes_of rfl, ?_⟩, rfl⟩, rfl, rfl, rfl, rfl, rfl, hr, fun x => rfl, rfl, rfl⟩
  · have := hr.un
    show (A.deeper _).units + 64 < cLine
    omega
  · have := hr.un
    show (A.deeper _).units + 150 < cLine
    omega
theorem fn_len {np nn : Nat} {b : DS} : ∀ vs H Q E, spU K mg (runB nn np b) vs H Q E → vs.length = np := fun vs H Q E ⟨as, Fp, L, B, A, h⟩ => by
  rw [A.len]
  by_cases e : as.length = np
  · exact e
  · have : (as.length == np) = false := by simpa using e
    unfold runB at h
    rw [this] at h
    exact h.elim
theorem fn_pre {b : DS} (hle : ps.length ≤ N.length) {X : Cx} (eK : X.K = K) (eM : X.mg = mg) {vs : List V} {H : Hp} {Q : VK} {E : XK} (hsp : spU K mg (runB N.length ps.length b) vs H Q E) :
    ∃ Γ, rdB X (fun cls d _ H => E cls d H) Γ (b Γ) { nx := fun _ H' => Q .non H', rt := Q } (L2.start N vs) H := by
  subst eK eM
  have hvl := fn_len vs H Q E hsp
  obtain ⟨as, Fp, L, B, AU, hq⟩ := hsp
  have hal : as.length = ps.length := AU.len.symm.trans hvl
  have hq : match endB as (b (initS N.length as)) with
    | .bad => False
    | .exc x => ∀ H' N F' C d, PostU X.K H vs Fp L B H' N x.st F' → X.mg x.cls = some (.ref C) → XdOk X.K (RN N) H' d x.flds → E (.ref C) d H'
    | .val z => ∀ H' N F', PostU X.K H vs Fp L B H' N z.2 F' → RsOk X.K N H' Q z.1 := by
    unfold runB at hq
    rw [show (as.length == ps.length) = true by simpa using hal] at hq
    exact hq
  refine ⟨initS N.length as, ?_⟩
  let cv : Nat → Option V := fun i => match as[i]? with
    | some (.c _) => vs[i]?
    | _ => none
  let G : Gh := ⟨H, L, cv, B, fun _ => none⟩
  have wf : Wf G H := ⟨fun a o h _ => h, fun a o h => ⟨(AU.bok a o h).1, trivial⟩, fun a h => AU.al a h, fun a h => AU.al a h, fun a o h => (by cases h), fun i p h => by
    have h : cv i = some (.ref p) := h
    simp only [cv] at h
    split at h
    · rename_i c hc
      obtain ⟨v, h1, h2⟩ := AU.cel i c hc
      rw [h1] at h
      cases h
      rcases Cl.root h2 with z | z
      · exact .inl (AU.all i p z)
      · exact .inr (.inr z)
    · cases h⟩
  have hg : RgLe (fun a o => H a = some o ∧ a ∉ L) (rg G false) := fun a o h => .inr h
  have st : Sta X.K G H (L2.start N vs) (initS N.length as) := by
    refine ⟨Fp, wf, ?_, fun i s h => ?_, fun i p h => ⟨AU.al p (AU.all i p h), (by cases q : B p with | none => exact q | some u => exact absurd (AU.all i p h) (AU.bok p u q).2), .inl (AU.all i p h)⟩, fun i p h => rfl, AU.dj, fun i j k ns h1 h2 => ?_⟩
    rotate_right
    · unfold initS at h2
      by_cases hj : j < as.length
      · rw [List.getElem?_append_left (by simpa using hj), List.getElem?_map] at h2
        cases ha : as[j]? with
        | none => rw [ha] at h2; cases h2
        | some y => rw [ha] at h2; cases y <;> cases h2
      · rw [List.getElem?_append_right (by simpa using hj)] at h2
        have := List.eq_of_mem_replicate (List.mem_of_getElem? h2)
        cases this
    · unfold initS L2.start
      simp [AU.len]
    · by_cases hi : i < as.length
      · have hi2 : i < vs.length := by rw [AU.len]; exact hi
        rw [start_get hi2, List.getElem?_map]
        unfold initS at h
        rw [List.getElem?_append_left (by simpa using hi), List.getElem?_map] at h
        cases ha : as[i]? with
        | none => rw [ha] at h; cases h
        | some y =>
          rw [ha] at h
          cases h
          cases y with
          | d x =>
            obtain ⟨v, h1, h2⟩ := AU.dat i x ha
            rw [h1]
            refine ⟨AU.emp i (by rw [ha]; intro c z; cases z), v, rfl, ?_⟩
            cases hx : scD x with
            | true => exact Dn.free h2 (scD_flat hx)
            | false => exact h2.mono hg (TupLe.rf _)
          | n x =>
            obtain ⟨v, h1, h2⟩ := AU.nat i x ha
            rw [h1]
            exact ⟨AU.emp i (by rw [ha]; intro c z; cases z), v, rfl, h2⟩
          | c c =>
            obtain ⟨v, h1, h2⟩ := AU.cel i c ha
            rw [h1]
            refine ⟨v, rfl, ?_, h2⟩
            show cv i = some v
            simp only [cv, ha, h1]
      · unfold initS at h
        rw [List.getElem?_append_right (by simpa using hi)] at h
        have : s = .un := List.eq_of_mem_replicate (List.mem_of_getElem? h)
        subst this
        exact AU.emp i (by rw [List.getElem?_eq_none (by omega)]; intro c z; cases z)
  have post : ∀ G' H' σ' Γ' Z, Ext G H G' H' → Sta X.K G' H' σ' Γ' → cellsAt as Γ' = some Z → ∃ F', PostU X.K H vs Fp L B H' G'.N Z F' := fun G' H' σ' Γ' Z e ⟨A', S'⟩ hz => by
    have h0 : G'.H0 = H := e.h0
    have hP : G'.P = L := e.p
    refine ⟨fun i => match Z[i]? with | some (.io _) => A' i | _ => [], fun a o h hp => e.w.keep a o (by rw [h0]; exact h) (by rw [hP]; exact hp), fun a ha => e.w.pal a (by rw [hP]; exact ha), e.t, fun a o h => ⟨(e.w.new a o h).1, (e.nn a o h).elim .inr .inl⟩, fun i c hc => ?_, fun i p hp => ?_, fun i j p hi hj => ?_⟩
    · obtain ⟨g1, c0, g2⟩ := cellsAt_get hz hc
      obtain ⟨v, q1, q2, q3⟩ := S'.sl i _ g1
      have q2 : G'.I i = some v := q2
      rw [e.i] at q2
      have q2 : cv i = some v := q2
      simp only [cv, g2] at q2
      refine ⟨v, q2, ?_⟩
      simp only [hc]
      exact q3
    · have hp : p ∈ (match Z[i]? with | some (.io _) => A' i | _ => []) := hp
      split at hp
      · rename_i c hc
        obtain ⟨q1, q2, q3⟩ := S'.al i p hp
        refine ⟨q1, q2, ?_⟩
        rw [hP, h0] at q3
        exact q3
      · cases hp
    · have hi : p ∈ (match Z[i]? with | some (.io _) => A' i | _ => []) := hi
      have hj : p ∈ (match Z[j]? with | some (.io _) => A' j | _ => []) := hj
      split at hi
      · split at hj
        · exact S'.dj i j p hi hj
        · cases hj
      · cases hi
  refine ⟨G, st, ?_⟩
  cases hm : b (initS N.length as) with
  | bad => rw [hm] at hq; exact hq
  | exc ex =>
    rw [hm] at hq
    intro G' H' σ' C d e S' g1 g2
    cases hz : cellsAt as ex.st with
    | none =>
      have hq : (match (R.ofO (cellsAt as ex.st)).bind (fun Z => (R.exc ⟨ex.cls, ex.flds, Z⟩ : R (Rs × List Sl))) with | .bad => False | .exc x => _ | .val z => _) := hq
      rw [hz] at hq
      exact hq.elim
    | some Z =>
      have hq : (match (R.ofO (cellsAt as ex.st)).bind (fun Z => (R.exc ⟨ex.cls, ex.flds, Z⟩ : R (Rs × List Sl))) with | .bad => False | .exc x => _ | .val z => _) := hq
      rw [hz] at hq
      obtain ⟨F', hp⟩ := post G' H' σ' ex.st Z e S' hz
      exact hq H' G'.N F' C d hp g1 g2
  | val r =>
    rw [hm] at hq
    intro G' H' e
    obtain ⟨w, Γ'⟩ := r
    have hq : (match (R.ofO (fwR w)).bind (fun r => (R.ofO (cellsAt as Γ')).bind fun Z => (R.val (r, Z) : R (Rs × List Sl))) with | .bad => False | .exc x => _ | .val z => _) := hq
    cases hz : cellsAt as Γ' with
    | none =>
      rw [hz] at hq
      cases hw : fwR w <;> rw [hw] at hq <;> exact hq.elim
    | some Z =>
      rw [hz] at hq
      have fin : ∀ r, fwR w = some r → ∀ σ', Sta X.K G' H' σ' Γ' → RsOk X.K G'.N H' Q r := fun r hr σ' S' => by
        rw [hr] at hq
        obtain ⟨F', hp⟩ := post G' H' σ' Γ' Z e S' hz
        exact hq H' G'.N F' hp
      cases w with
      | nx => exact fun σ' S' => fin _ rfl σ' S' .non .non
      | bk => exact hq.elim
      | ct => exact hq.elim
      | rt r =>
        cases r with
        | d x => exact fun σ' v S' hv => fin _ rfl σ' S' v hv
        | c x => exact fun σ' v H2 S' hn => fin _ rfl σ' S' v H2 hn
theorem fn_u (F : FunD K x qual params body scope dvs kws f fd) (S : FnScope N ps scope) {b : DS} (hle : ps.length ≤ N.length) (hb : ∀ X W, Here X W P w K mg base scope N k → CS X W body b) :
    FnOk P w K mg base (L2.CX P w) (k + 1) f fd ps (spU K mg (runB N.length ps.length b)) :=
  F.ok S fn_len fun cdv A outer s H vs Q E hr hsp => by
    obtain ⟨Γ, h⟩ := fn_pre hle (X := cxOf (L2.CX P w) P w K mg base N qual scope f cdv A outer s H E) rfl rfl hsp
    exact ⟨_, hb _ _ (here_of S hr) Γ, h⟩
end
end PD
set_option Elab.async false
set_option linter.all false
set_option maxRecDepth 100000
set_option maxHeartbeats 4000000
set_option autoImplicit false
namespace PD
open PySem L2
def Clee (X : Cx) (x : Str) (dvs : List V) (sp : Sp) : Prop :=
  ∃ (k : Nat) (f : Addr) (fd : FuncData) (ps : List Str) (ds : List Value), FnOk X.prog X.w X.K X.mg X.base (L2.CX X.prog X.w) k f fd ps sp ∧ Room k X.A ∧ X.mg x = some (.ref f) ∧ PySem.W.keepIn X.K (.ref f) = true ∧ Binds X.K fd ps ds ∧ Vals dvs ds
def jn (N N' : Hp) : Hp := fun a => match N a with
  | some o => some o
  | none => N' a
theorem jn_left {N N' : Hp} {a : Addr} {o : HO} (h : N a = some o) : jn N N' a = some o := by unfold jn; rw [h]
theorem jn_right {N N' : Hp} {a : Addr} (h : N a = none) : jn N N' a = N' a := by unfold jn; rw [h]
theorem jn_cases {N N' : Hp} {a : Addr} {o : HO} (h : jn N N' a = some o) : N a = some o ∨ (N a = none ∧ N' a = some o) := by
  cases q : N a with
  | some u => rw [jn_left q] at h; exact .inl h
  | none => rw [jn_right q] at h; exact .inr ⟨rfl, h⟩
theorem Same.tup {H H' : Hp} (s : Same H H') : TupLe H H' := fun a xs h => s a _ h
theorem grow_call {G : Gh} {H H' N : Hp} (w : Wf G H) (s : Same H H') (n : NewIn G.N N H H') : Grow G H (jn G.N N) H' [] ∧ RgLe (RN N) (RN (jn G.N N)) := by
  refine ⟨⟨fun a o h _ => s a o h, fun _ h => absurd h (by simp), Same.tup s, fun a o h => jn_left h, fun a o h => ?_⟩, fun a o h => ?_⟩
  · rcases jn_cases h with h | ⟨h1, h2⟩
    · exact ⟨s a o (w.new a o h).1, .inl h⟩
    · exact ⟨(n a o h2).1, (n a o h2).2.elim .inr .inl⟩
  · show jn G.N N a = some o
    cases q : G.N a with
    | none => rw [jn_right q]; exact h
    | some u =>
      rcases (n a o h).2 with z | z
      · have := (w.new a u q).1
        rw [z] at this
        cases this
      · exact jn_left z
theorem call_end {K : PySem.W.Frag} {G : Gh} {H H' N' : Hp} {σ : St} {Γ : List Sl} (S : Sta K G H σ Γ) (s : Same H H') (n : NewIn G.N N' H H') :
    ∃ G', Sta K G' H' σ Γ ∧ Ext G H G' H' ∧ RgLe (RN N') (rg G' true) := by
  obtain ⟨g, l⟩ := grow_call S.w s n
  obtain ⟨S', e⟩ := S.grow g
  exact ⟨_, S', e, l⟩
def rdW (Γ : List Sl) (j : Nat) : Option PyData := match Γ[j]? with
  | some (.own (.tr T)) => trD T
  | some (.io (.tr T)) => trD T
  | _ => rdD Γ (.s j)
theorem StaA.rdW {K : PySem.W.Frag} {G : Gh} {H : Hp} {σ : St} {Γ : List Sl} {A : Nat → List Addr} {j : Nat} {x : PyData} {v : V} (S : StaA K G H σ Γ A) (h : PD.rdW Γ j = some x) (hv : σ[j]? = some (some v)) :
    Dn K (fun a o => H a = some o ∧ (G.N a = some o ∨ a ∈ A j ∨ G.E a = some o)) H v x := by
  have l : RgLe (RgN G) (fun a o => H a = some o ∧ (G.N a = some o ∨ a ∈ A j ∨ G.E a = some o)) := fun a o z => ⟨(S.w.new a o z).1, .inl z⟩
  unfold PD.rdW at h
  split at h
  · obtain ⟨u, h1, h2, h3⟩ := S.sl j _ ‹_›
    rw [hv] at h1
    cases h1
    exact TreOk.dn l h3.1 (fun a ha o ho => ⟨ho, .inr (.inl ha)⟩) x h
  · obtain ⟨u, h1, h2, h3⟩ := S.sl j _ ‹_›
    rw [hv] at h1
    cases h1
    exact TreOk.dn l h3.1 (fun a ha o ho => ⟨ho, .inr (.inl ha)⟩) x h
  · unfold rdD at h
    simp only at h
    split at h
    · cases h
      obtain ⟨u, h1, h2, p, vs, rfl, hfp, hp, hd⟩ := S.sl j _ ‹_›
      rw [hv] at h1
      cases h1
      exact .lst (.inl ⟨hp, .inr (.inl (by rw [hfp]; simp))⟩) (hd.mono l (TupLe.rf _))
    · cases h
      obtain ⟨u, h1, h2, p, vs, rfl, hfp, hp, hd⟩ := S.sl j _ ‹_›
      rw [hv] at h1
      cases h1
      exact .lst (.inl ⟨hp, .inr (.inl (by rw [hfp]; simp))⟩) (hd.mono l (TupLe.rf _))
    · cases h
      obtain ⟨_, p, o, h1, h2, h3, h4, h5, q, vs, e, _, h6, h7⟩ := S.sl j _ ‹_›
      rw [hv] at h1
      cases h1
      cases e
      rw [h3] at h6
      cases h6
      exact .lst (.inl ⟨h3, .inr (.inr h4)⟩) (h7.mono l (TupLe.rf _))
    · cases h
theorem Sta.rdW {K : PySem.W.Frag} {G : Gh} {H : Hp} {σ : St} {Γ : List Sl} {j : Nat} {x : PyData} {v : V} (S : Sta K G H σ Γ) (h : PD.rdW Γ j = some x) (hv : σ[j]? = some (some v)) : Dn K (fun a o => H a = some o ∧ a ∉ []) H v x := by
  obtain ⟨A, T⟩ := S
  exact (T.rdW h hv).mono (fun a o z => ⟨z.1, by simp⟩) (TupLe.rf _)
def rdDs (Γ : List Sl) (i : Option Nat) : List AV → Option (List PyData)
  | [] => some []
  | .d _ x :: as => (rdDs Γ i as).map (x :: ·)
  | .s j :: as => if some j = i then none else (rdW Γ j).bind fun x => (rdDs Γ i as).map (x :: ·)
theorem rdDs_ok {K : PySem.W.Frag} {G : Gh} {H : Hp} {σ : St} {Γ : List Sl} {i : Option Nat} {fp : List Addr} (S : Sta K G H σ Γ) (hr : ∀ fr a o, rg G fr a o → a ∉ fp) (hs : ∀ (j : Nat) (x : PyData) (v : V), some j ≠ i → rdW Γ j = some x → σ[j]? = some (some v) → Dn K (fun a o => H a = some o ∧ a ∉ fp) H v x) :
    ∀ {as : List AV} {ds : List PyData} {vs : List V}, rdDs Γ i as = some ds → AVs K G H σ vs as → DnA K (fun a o => H a = some o ∧ a ∉ fp) H vs ds
  | [], _, _, h, .nil => by cases h; exact .nil
  | .d fr x :: as, ds, _, h, .cons q r => by
    have h : (rdDs Γ i as).map (x :: ·) = some ds := h
    cases e : rdDs Γ i as with
    | none => rw [e] at h; cases h
    | some xs =>
      rw [e] at h
      cases h
      exact .cons (Dn.mono (fun b o z => ⟨S.w.rgl fr b o z, hr fr b o z⟩) (TupLe.rf _) q) (rdDs_ok S hr hs e r)
  | .s j :: as, ds, _, h, .cons (v := v) q r => by
    unfold rdDs at h
    split at h
    · cases h
    · rename_i hj
      cases e1 : rdW Γ j with
      | none => rw [e1] at h; cases h
      | some x =>
        rw [e1] at h
        have h : (rdDs Γ i as).map (x :: ·) = some ds := h
        cases e : rdDs Γ i as with
        | none => rw [e] at h; cases h
        | some xs =>
          rw [e] at h
          cases h
          exact .cons (hs j x v hj e1 q) (rdDs_ok S hr hs e r)
theorem dna_at {K : PySem.W.Frag} {G : Rg} {H : Hp} {vs : List V} {ds : List PyData} {i : Nat} {x : PyData} (h : DnA K G H vs ds) (hx : (ds.map Ar.d)[i]? = some (.d x)) : ∃ v, vs[i]? = some v ∧ Dn K G H v x := by
  rw [List.getElem?_map] at hx
  cases e : ds[i]? with
  | none => rw [e] at hx; cases hx
  | some y =>
    rw [e] at hx
    cases hx
    exact h.get' e
theorem argsD {K : PySem.W.Frag} {H : Hp} {vs : List V} {ds : List PyData} (h : DnA K (fun a o => H a = some o ∧ a ∉ []) H vs ds) {B : Hp} (hB : ∀ a o, B a = some o → H a = some o) : ArgsU K H vs (ds.map Ar.d) (fun _ => []) [] B where
  len := by rw [List.length_map]; exact h.length
  dat := fun i x hx => dna_at h hx
  cel := fun i c hc => by
    rw [List.getElem?_map] at hc
    cases e : ds[i]? <;> rw [e] at hc <;> cases hc
  emp := fun _ _ => rfl
  all := fun _ _ h => h
  al := fun p h => absurd h (by simp)
  dj := fun i j p h => absurd h (by simp)
  nat := fun i x hx => by
    rw [List.getElem?_map] at hx
    cases e : ds[i]? <;> rw [e] at hx <;> cases hx
  bok := fun a o h => ⟨hB a o h, by simp⟩
def R.atX {α : Type} (Γ : List Sl) : R α → R α
  | .exc x => .exc ⟨x.cls, x.flds, Γ⟩
  | m => m
section
variable {X : Cx} {W : WX} {sc : Scope} {N : List Str} {x : Str} {e : Expr} {es : List Expr} {p pos : Pos} {k : DA} {dvs : List V} {dds : List PyData} {m : List Ar → R (Rs × List Sl)}
theorem callD_core {Γ : List Sl} {G : Gh} {H : Hp} {σ : St} {as : List AV} {ds : List PyData} {vs : List V} {Q : VK} (hdv : ∀ G H, DnA X.K G H dvs dds) (S : Sta X.K G H σ Γ) (av : AVs X.K G H σ vs as) (hd : rdDs Γ none as = some ds)
    (hp : Pst X W G H σ ((m ((ds ++ dds).map Ar.d)).atX Γ) fun z G' H' => Sta X.K G' H' σ Γ → RsOk X.K G'.N H' Q z.1) : spU X.K X.mg m (vs ++ dvs) H Q (fun cls d H => W cls d σ H) := by
  have h1 : DnA X.K (fun a o => H a = some o ∧ a ∉ []) H vs ds := rdDs_ok (i := none) (fp := []) S (fun _ _ _ _ => by simp) (fun _ _ _ _ hr hv => S.rdW hr hv) hd av
  refine ⟨_, _, _, G.N, argsD (h1.append (hdv _ _)) (fun a o h => (S.w.new a o h).1), ?_⟩
  cases hm : m ((ds ++ dds).map Ar.d) with
  | bad => rw [hm] at hp; exact hp
  | exc y =>
    rw [hm] at hp
    intro H' N' F' C d P g1 g2
    obtain ⟨G', S', e', l⟩ := call_end S (fun a o h => P.keep a o h (by simp)) P.new
    refine hp G' H' σ C d e' S' g1 ?_
    rcases g2 with ⟨a, fs, q1, q2, q3, q4⟩ | q
    · exact .inl ⟨a, fs, q1, l _ _ q2, q3, q4.mono l (TupLe.rf _)⟩
    · exact .inr q
  | val z =>
    rw [hm] at hp
    intro H' N' F' P
    obtain ⟨G', S', e', l⟩ := call_end S (fun a o h => P.keep a o h (by simp)) P.new
    have q := hp G' H' e' S'
    cases hz : z.1 with
    | d y => rw [hz] at q; exact fun v hv => q v (hv.mono l (TupLe.rf _))
    | c y => rw [hz] at q; exact fun v H2 ⟨fp, n1, n2, n3⟩ => q v H2 ⟨fp, n1, n2, Cl.mono n3 l (fun _ _ => rfl) (TupLe.rf _)⟩
def rsC : Rs → Option Cl
  | .c x => some x
  | _ => none
end
end PD
set_option Elab.async false
set_option linter.all false
set_option maxRecDepth 100000
set_option maxHeartbeats 4000000
set_option autoImplicit false
namespace PD
open PySem L2
theorem Sta.cellU {K : PySem.W.Frag} {G : Gh} {H : Hp} {σ : St} {Γ : List Sl} {c : Cl} (S : Sta K G H σ Γ) (i : Nat) (io : Bool) (hi : Γ[i]? = some (if io then .io c else .own c)) :
    ∃ v fp, σ[i]? = some (some v) ∧ c.ok K (RgN G) H v fp ∧ (∀ p ∈ fp, H p ≠ none) ∧ (∀ fr a o, rg G fr a o → a ∉ fp) ∧ (∀ (j : Nat) (x : PyData) (u : V), j ≠ i → PD.rdW Γ j = some x → σ[j]? = some (some u) → Dn K (fun a o => H a = some o ∧ a ∉ fp) H u x) ∧
      ∀ H' N' fp' c', (∀ a o, H a = some o → a ∉ fp → H' a = some o) → (∀ a ∈ fp, H' a ≠ none) → TupLe H H' → NewIn G.N N' H H' → c'.ok K (RN N') H' v fp' → (∀ p ∈ fp', H' p ≠ none ∧ N' p = none ∧ (p ∈ fp ∨ H p = none)) →
        ∃ G', Sta K G' H' σ (Γ.set i (if io then .io c' else .own c')) ∧ Ext G H G' H' ∧ RgLe (RN N') (rg G' true) := by
  obtain ⟨A, S⟩ := S
  have key : ∃ v, σ[i]? = some (some v) ∧ c.ok K (RgN G) H v (A i) ∧ (io = true → G.I i = some v) ∧ (io = false → ∀ p ∈ A i, G.H0 p = none) := by
    cases io with
    | true =>
      obtain ⟨v, h1, h2, h3⟩ := S.sl i _ hi
      exact ⟨v, h1, h3, fun _ => h2, fun h => by cases h⟩
    | false =>
      obtain ⟨v, h1, h2, h3⟩ := S.sl i _ hi
      exact ⟨v, h1, h3, fun h => absurd h (by simp), fun _ => h2⟩
  obtain ⟨v, h1, h2, h3, h4⟩ := key
  refine ⟨v, A i, h1, h2, fun p hp => (S.al i p hp).1, fun fr a o h hp => ?_, fun j x u hj hr hu => ?_, fun H' N' fp' c' k1 k2 t n ok f => ?_⟩
  · obtain ⟨_, q1, q2⟩ := S.al i a hp
    cases fr with
    | true =>
      have h : G.N a = some o := h
      rw [q1] at h; cases h
    | false =>
      rcases h with h | ⟨h, h'⟩
      · rw [q1] at h; cases h
      · rcases q2 with q2 | q2
        · exact h' q2
        · rw [q2] at h; cases h
  · refine (S.rdW hr hu).mono (fun a o z => ⟨z.1, fun hp => ?_⟩) (TupLe.rf _)
    rcases z.2 with z | z | z
    · rw [(S.al i a hp).2.1] at z; cases z
    · exact hj (S.dj j i a z hp)
    · rw [S.ae i a hp] at z; cases z
  · have g : Grow G H (jn G.N N') H' (A i) := by
      refine ⟨k1, k2, t, fun a o h => jn_left h, fun a o h => ?_⟩
      rcases jn_cases h with h | ⟨_, h⟩
      · refine ⟨k1 a o (S.w.new a o h).1 fun hp => ?_, .inl h⟩
        rw [(S.al i a hp).2.1] at h; cases h
      · exact ⟨(n a o h).1, (n a o h).2.elim .inr .inl⟩
    have l : RgLe (RN N') (RN (jn G.N N')) := fun a o h => by
      show jn G.N N' a = some o
      cases q : G.N a with
      | none => rw [jn_right q]; exact h
      | some u =>
        rcases (n a o h).2 with z | z
        · have := (S.w.new a u q).1
          rw [z] at this
          cases this
        · exact jn_left z
    have f2 : ∀ p ∈ fp', H' p ≠ none ∧ jn G.N N' p = none ∧ (p ∈ A i ∨ H p = none) := fun p hp => by
      obtain ⟨q1, q2, q3⟩ := f p hp
      refine ⟨q1, ?_, q3⟩
      have : G.N p = none := by
        rcases q3 with q3 | q3
        · exact (S.al i p q3).2.1
        · exact (S.w.fresh q3).1
      rw [jn_right this]
      exact q2
    obtain ⟨S', e⟩ := S.step (i := i) (fp' := fp') (s' := if io then .io c' else .own c') (σ' := σ) g (fun p hp => hp) (fun j hj => rfl) rfl (fun hlt => by
      cases io with
      | true => exact ⟨v, h1, h3 rfl, Cl.mono ok l (fun _ _ => rfl) (TupLe.rf _)⟩
      | false =>
        refine ⟨v, h1, fun p hp => ?_, Cl.mono ok l (fun _ _ => rfl) (TupLe.rf _)⟩
        rcases (f p hp).2.2 with q | q
        · exact h4 rfl p q
        · exact (S.w.fresh q).2.1) f2
    exact ⟨_, S', e, l⟩
def cellAt (Γ : List Sl) (i : Nat) : Option (Bool × Cl) := match Γ[i]? with
  | some (.own c) => some (false, c)
  | some (.io c) => some (true, c)
  | _ => none
theorem cellAt_ok {Γ : List Sl} {i : Nat} {z : Bool × Cl} (h : cellAt Γ i = some z) : Γ[i]? = some (if z.1 then .io z.2 else .own z.2) := by
  unfold cellAt at h
  split at h
  · cases h; exact ‹_›
  · cases h; exact ‹_›
  · cases h
def pickC (n : Nat) (as : List AV) : Option Nat := match as[n]? with
  | some (.s i) => some i
  | _ => none
def insC (n : Nat) (c : Cl) (ds : List PyData) : List Ar := (ds.take n).map Ar.d ++ .c c :: (ds.drop n).map Ar.d
def ioAt (n : Nat) (Z : List Sl) : Option Cl := match Z[n]? with
  | some (.io c) => some c
  | _ => none
theorem ioAt_ok {n : Nat} {Z : List Sl} {c : Cl} (h : ioAt n Z = some c) : Z[n]? = some (.io c) := by
  unfold ioAt at h
  split at h
  · cases h; exact ‹_›
  · cases h
def R.atC (n : Nat) (Γ : List Sl) (i : Nat) (io : Bool) : R (Rs × List Sl) → R (Rs × List Sl)
  | .bad => .bad
  | .exc x => (R.ofO (ioAt n x.st)).bind fun c => .exc ⟨x.cls, x.flds, Γ.set i (mkS io c)⟩
  | .val z => (R.ofO (ioAt n z.2)).bind fun c => .val (z.1, Γ.set i (mkS io c))
theorem avs_erase {K : PySem.W.Frag} {G : Gh} {H : Hp} {σ : St} : ∀ {n i : Nat} {as : List AV} {vs : List V}, AVs K G H σ vs as → as[n]? = some (.s i) → ∃ v v1 v2, vs = v1 ++ v :: v2 ∧ v1.length = n ∧ σ[i]? = some (some v) ∧ AVs K G H σ (v1 ++ v2) (as.eraseIdx n)
  | 0, i, _, _, .cons (v := v) (vs := vs) h r, e => by
    cases e
    exact ⟨v, [], vs, rfl, rfl, h, r⟩
  | n + 1, i, _, _, .cons (v := u) h r, e => by
    obtain ⟨v, v1, v2, rfl, h1, h2, h3⟩ := avs_erase (n := n) r (by simpa using e)
    exact ⟨v, u :: v1, v2, rfl, by simp [h1], h2, .cons h h3⟩
  | _, _, _, _, .nil, e => by simp at e
theorem dna_split {K : PySem.W.Frag} {G : Rg} {H : Hp} : ∀ {v1 v2 : List V} {ds : List PyData}, DnA K G H (v1 ++ v2) ds → DnA K G H v1 (ds.take v1.length) ∧ DnA K G H v2 (ds.drop v1.length)
  | [], v2, ds, h => ⟨.nil, h⟩
  | v :: v1, v2, _, .cons h r => by
    obtain ⟨q1, q2⟩ := dna_split (v1 := v1) r
    exact ⟨.cons h q1, q2⟩
theorem argsC {K : PySem.W.Frag} {H : Hp} {v1 v2 : List V} {v : V} {ds : List PyData} {c : Cl} {fp : List Addr} (h : DnA K (fun a o => H a = some o ∧ a ∉ fp) H (v1 ++ v2) ds) {B : Hp} (hc : c.ok K (RN B) H v fp) (al : ∀ p ∈ fp, H p ≠ none) (hB : ∀ a o, B a = some o → H a = some o ∧ a ∉ fp) :
    ArgsU K H (v1 ++ v :: v2) (insC v1.length c ds) (fun i => if i = v1.length then fp else []) fp B := by
  obtain ⟨h1, h2⟩ := dna_split h
  have l1 := h1.length
  have l2 := h2.length
  have e1 : ((ds.take v1.length).map Ar.d).length = v1.length := by rw [List.length_map]; exact l1.symm
  refine ⟨?_, fun i x hx => ?_, fun i c' hc' => ?_, fun i hi => ?_, fun i p hp => ?_, al, fun i j p hi hj => ?_, fun i x hx => ?_, hB⟩
  · unfold insC
    rw [List.length_append, List.length_append, List.length_cons, List.length_cons, e1, List.length_map, ← l2]
  · unfold insC at hx
    by_cases hlt : i < v1.length
    · rw [List.getElem?_append_left (by rw [e1]; exact hlt)] at hx
      rw [List.getElem?_append_left hlt]
      exact dna_at h1 hx
    · rw [List.getElem?_append_right (by rw [e1]; omega), e1] at hx
      rw [List.getElem?_append_right (by omega)]
      cases hk : i - v1.length with
      | zero => rw [hk] at hx; cases hx
      | succ q =>
        rw [hk, List.getElem?_cons_succ] at hx
        rw [List.getElem?_cons_succ]
        exact dna_at h2 hx
  · unfold insC at hc'
    by_cases hlt : i < v1.length
    · rw [List.getElem?_append_left (by rw [e1]; exact hlt), List.getElem?_map] at hc'
      cases e : (ds.take v1.length)[i]? <;> rw [e] at hc' <;> cases hc'
    · rw [List.getElem?_append_right (by rw [e1]; omega), e1] at hc'
      cases hk : i - v1.length with
      | zero =>
        rw [hk] at hc'
        cases hc'
        have : i = v1.length := by omega
        subst this
        exact ⟨v, by simp, by rw [if_pos rfl]; exact hc⟩
      | succ q =>
        rw [hk, List.getElem?_cons_succ, List.getElem?_map] at hc'
        cases e : (ds.drop v1.length)[q]? <;> rw [e] at hc' <;> cases hc'
  · by_cases e : i = v1.length
    · subst e
      refine absurd ?_ (hi c)
      unfold insC
      rw [List.getElem?_append_right (by rw [e1]; exact Nat.le_refl _), e1, Nat.sub_self]
      rfl
    · exact if_neg e
  · by_cases e : i = v1.length
    · rw [if_pos e] at hp; exact hp
    · rw [if_neg e] at hp; cases hp
  · by_cases e : i = v1.length
    · by_cases e' : j = v1.length
      · rw [e, e']
      · rw [if_neg e'] at hj; cases hj
    · rw [if_neg e] at hi; cases hi
  · unfold insC at hx
    by_cases hlt : i < v1.length
    · rw [List.getElem?_append_left (by rw [e1]; exact hlt), List.getElem?_map] at hx
      cases e : (ds.take v1.length)[i]? <;> rw [e] at hx <;> cases hx
    · rw [List.getElem?_append_right (by rw [e1]; omega), e1] at hx
      cases hk : i - v1.length with
      | zero => rw [hk] at hx; cases hx
      | succ q =>
        rw [hk, List.getElem?_cons_succ, List.getElem?_map] at hx
        cases e : (ds.drop v1.length)[q]? <;> rw [e] at hx <;> cases hx
section
variable {X : Cx} {W : WX} {sc : Scope} {N : List Str} {x : Str} {e : Expr} {es : List Expr} {p pos : Pos} {k : DA} {dvs : List V} {dds : List PyData} {m : List Ar → R (Rs × List Sl)}
theorem callC_core {Γ : List Sl} {G : Gh} {H : Hp} {σ : St} {as : List AV} {ds : List PyData} {vs : List V} {Q : VK} {n i : Nat} {ic : Bool × Cl} (hdv : ∀ G H, DnA X.K G H dvs dds) (S : Sta X.K G H σ Γ) (av : AVs X.K G H σ vs as) (hn : pickC n as = some i) (hc : cellAt Γ i = some ic) (hd : rdDs Γ (some i) (as.eraseIdx n) = some ds) (hfl : ic.2.fl = true)
    (hp : Pst X W G H σ ((m (insC n ic.2 (ds ++ dds))).atC n Γ i ic.1) fun z G' H' => Sta X.K G' H' σ z.2 → RsOk X.K G'.N H' Q z.1) : spU X.K X.mg m (vs ++ dvs) H Q (fun cls d H => W cls d σ H) := by
  have hn' : as[n]? = some (.s i) := by
    unfold pickC at hn
    split at hn
    · cases hn; exact ‹_›
    · cases hn
  obtain ⟨v, v1, v2, rfl, hv1, hv, av2⟩ := avs_erase av hn'
  obtain ⟨v', fp, g1, g2, g3, g4, g5, g6⟩ := S.cellU i ic.1 (cellAt_ok hc)
  rw [hv] at g1
  cases g1
  have h1 : DnA X.K (fun a o => H a = some o ∧ a ∉ fp) H (v1 ++ v2) ds := rdDs_ok (i := some i) (fp := fp) S g4 (fun j x u hj hr hu => g5 j x u (fun z => hj (by rw [z])) hr hu) hd av2
  have h2 : DnA X.K (fun a o => H a = some o ∧ a ∉ fp) H (v1 ++ (v2 ++ dvs)) (ds ++ dds) := by
    rw [← List.append_assoc]
    exact h1.append (hdv _ _)
  subst hv1
  refine ⟨_, _, _, G.N, by rw [List.append_assoc, List.cons_append]; exact argsC h2 g2 g3 (fun a o h => ⟨(S.w.new a o h).1, g4 true a o h⟩), ?_⟩
  have key : ∀ H' N' F' Z c', PostU X.K H (v1 ++ v :: v2 ++ dvs) (fun i => if i = v1.length then fp else []) fp G.N H' N' Z F' → ioAt v1.length Z = some c' → ∃ G', Sta X.K G' H' σ (Γ.set i (mkS ic.1 c')) ∧ Ext G H G' H' ∧ RgLe (RN N') (rg G' true) := fun H' N' F' Z c' P hz => by
    obtain ⟨u, q1, q2⟩ := P.cel _ _ (ioAt_ok hz)
    have : u = v := by
      rw [List.append_assoc, List.getElem?_append_right (Nat.le_refl _), Nat.sub_self] at q1
      exact (Option.some.inj q1).symm
    subst this
    exact g6 H' N' (F' v1.length) c' P.keep P.pal P.t P.new q2 fun p hp => P.al _ p hp
  cases hm : m (insC v1.length ic.2 (ds ++ dds)) with
  | bad => rw [hm] at hp; exact hp
  | exc y =>
    rw [hm] at hp
    intro H' N' F' C d P k1 k2
    obtain ⟨c', hz, hp⟩ := Pst.ofO (show Pst X W G H σ ((R.ofO (ioAt v1.length y.st)).bind fun c => .exc ⟨y.cls, y.flds, Γ.set i (mkS ic.1 c)⟩) _ from hp)
    obtain ⟨G', S', e', l⟩ := key H' N' F' y.st c' P hz
    refine hp G' H' σ C d e' S' k1 ?_
    rcases k2 with ⟨a, fs, q1, q2, q3, q4⟩ | q
    · exact .inl ⟨a, fs, q1, l _ _ q2, q3, q4.mono l (TupLe.rf _)⟩
    · exact .inr q
  | val z =>
    rw [hm] at hp
    intro H' N' F' P
    obtain ⟨c', hz, hp⟩ := Pst.ofO (show Pst X W G H σ ((R.ofO (ioAt v1.length z.2)).bind fun c => .val (z.1, Γ.set i (mkS ic.1 c))) _ from hp)
    obtain ⟨G', S', e', l⟩ := key H' N' F' z.2 c' P hz
    have q := hp G' H' e' S'
    simp only at q
    cases hz : z.1 with
    | d y => rw [hz] at q; exact fun v hv => q v (hv.mono l (TupLe.rf _))
    | c y => rw [hz] at q; exact fun v H2 ⟨fp, n1, n2, n3⟩ => q v H2 ⟨fp, n1, n2, Cl.mono n3 l (fun _ _ => rfl) (TupLe.rf _)⟩
def preC (n : Nat) (dds : List PyData) (z : List AV × List Sl) : R (Nat × Bool × List Ar) := (R.ofO (pickC n z.1)).bind fun i => (R.ofO (cellAt z.2 i)).bind fun ic => (R.ofO (rdDs z.2 (some i) (z.1.eraseIdx n))).bind fun ds => (R.req ic.2.fl).bind fun _ => .val (i, ic.1, insC n ic.2 (ds ++ dds))
theorem preC_ok {n : Nat} {z : List AV × List Sl} {G : Gh} {H : Hp} {σ : St} {τ : Type} {q : Nat × Bool × List Ar → R τ} {P : τ → Gh → Hp → Prop} (h : Pst X W G H σ ((preC n dds z).bind q) P) : ∃ i ic ds, pickC n z.1 = some i ∧ cellAt z.2 i = some ic ∧ rdDs z.2 (some i) (z.1.eraseIdx n) = some ds ∧ ic.2.fl = true ∧ Pst X W G H σ (q (i, ic.1, insC n ic.2 (ds ++ dds))) P := by
  unfold preC at h
  rw [R.bind_assoc] at h
  obtain ⟨i, h1, h⟩ := Pst.ofO h
  rw [R.bind_assoc] at h
  obtain ⟨ic, h2, h⟩ := Pst.ofO h
  rw [R.bind_assoc] at h
  obtain ⟨ds, h3, h⟩ := Pst.ofO h
  rw [R.bind_assoc] at h
  obtain ⟨h4, h⟩ := Pst.req h
  exact ⟨i, ic, ds, h1, h2, h3, h4, h⟩
end
end PD
set_option Elab.async false
set_option linter.all false
set_option maxRecDepth 100000
set_option maxHeartbeats 4000000
set_option autoImplicit false
namespace PD
open PySem PySem.Spec PyProof.Rows L2
abbrev sO (w : World) : Obj := { cls := .type "set", dict := none, data := .set #[] 0 (.fresh 0 0 (!w.params.followText "set-order")) }
section
variable {P : Program} {w : World} {A : Around} {E : Value → Shared → Prop} {s : Shared}
theorem set_of_list {l : Addr} {items : Array Value} (ns : List Int) {Q : Value → Shared → Prop} (hh : A.handled = none) (hl : s.heap.IsList l items) (hit : IntsAre items.toList ns) (hb : ns.length + 1 < scanBound)
    (h : ∀ (h' : Heap) (tk c : Nat), SetR w h' s.heap.objs.size (fun j => decide (j ∈ ns)) c → c ≤ ns.length → (∀ b o, s.heap.get? b = some o → h'.get? b = some o) → Q (.ref s.heap.objs.size) { s with heap := h', toks := tk }) :
    wpAny (model P w) A (call (.type "set") [.ref l]) Q E s := by
  have z0 : items.size = ns.length := by rw [← Array.length_toList]; exact IntsAre.length hit
  obtain ⟨c, tl, z1⟩ := F.called_set.mro
  have z2 := F.called_set.made
  have z3 := F.called_set.sub
  refine wpAny_call (codeAny_of_tree ?_)
  show wpAny _ _ (callAny (.type "set") _) _ _ _
  refine wpAny_pure ⟨Code.quiet_builtin _ (by decide +kernel), codeAny_builtin F.entry_type_call ?_⟩
  rw [Around.under_plain (weight_type_call_type "set" [.ref l] []) rfl]
  have z4 := F.called_set.notType
  have z5 := F.called_set.canCreate
  have z6 := F.typeCall_set_1 (.ref l)
  repeat (any_goals (first | assumption | wp_step))
  refine codeAny_mono (code_set_led1 (.ref l) (E := E) (Q₁ := fun ob s1 => ob = .ref s.heap.objs.size ∧ s1 = { s with heap := s.heap.push (sO w) }) ⟨rfl, rfl⟩) fun r s1 hr => ?_
  cases r with
  | error e => exact hr
  | ok fl =>
    cases fl with
    | ret ob =>
      obtain ⟨rfl, rfl⟩ := hr
      have hS : (s.heap.push (sO w)).get? s.heap.objs.size = some (sO w) := Heap.get?_push_size _ rfl
      have hT : Shared.TypeIs { s with heap := s.heap.push (sO w) } (.ref s.heap.objs.size) "set" := ⟨_, hS, rfl⟩
      have z7 := F.called_set.init.lookup
      have z8 := F.called_set.init.bind (.ref s.heap.objs.size)
      repeat (any_goals (first | assumption | wp_step))
      refine codeAny_mono (codeAny_call_builtin (R := wants (fun r s2 => r = .none ∧ ∃ h' tk c, s2 = { s with heap := h', toks := tk } ∧ SetR w h' s.heap.objs.size (fun j => decide (j ∈ ns)) c ∧ c ≤ ns.length ∧ (∀ b o, s.heap.get? b = some o → h'.get? b = some o)) E)
        F.called_set.init.plain F.entry_set_init (check_set_init_1 hT ?_)) fun r2 s2 hr2 => ?_
      · obtain ⟨⟨ocls, odict, odata, oslots⟩, hol, hcl, nl, hdl⟩ := hl
        simp only at hcl hdl
        subst hcl
        subst hdl
        have ho1 : (s.heap.push (sO w)).get? l = some { cls := .type "list", dict := odict, data := .seq items nl, slots := oslots } := Heap.get?_push_of_some _ hol
        have y1 := F.sub_list_set
        have y2 := F.sub_list_frozenset
        have y3 : (Value.type "list" == Value.type "dict") = false := by decide
        have hl1 : (s.heap.push (sO w)).IsList l items := ⟨_, ho1, rfl, nl, rfl⟩
        unfold Builtin.«set.__init__» noKeywords Builtin.Frozenset.updateFrom
        generalize hPI : pyIter = PI
        wp_walk
        subst hPI
        refine wpAny_pyIter_list hl1 (wpAny_bind (wpAny_runValue ?_))
        have hlS : l < s.heap.objs.size := Heap.lt_size hol
        have y4 : A.in1.in1.in1.handled = none := by simp [hh]
        have y5 : (s.heap.push (sO w)).objs.size = s.heap.objs.size + 1 := Heap.size_push ..
        have y6 : l ≠ (s.heap.push (sO w)).objs.size := by rw [y5]; exact Nat.ne_of_lt (Nat.lt_succ_of_lt hlS)
        have y7 : s.heap.objs.size ∉ [(s.heap.push (sO w)).objs.size, l] := by rw [y5]; simp; exact fun z => Nat.ne_of_lt hlS z.symm
        have hval : ∀ (i : Nat) (v : Value), items[i]? = some v → ∃ k t, ns[i]? = some k ∧ v = .int k t := fun i v hv => by
          have hi : i < ns.length := by rw [← z0]; exact (Array.getElem?_eq_some_iff.mp hv).1
          obtain ⟨t, e⟩ := IntsAre.int_at hit i v (by rw [Array.getElem?_toList]; exact hv)
          exact ⟨ns[i], t, List.getElem?_eq_getElem hi, by rw [e]; simp [hi]⟩
        refine set_update_ints ((Walks.list y4 _ l y6 items).toS) s.heap.objs.size y7 ns z0 hb hval (items.size - 0) 0 _ (by omega) (Nat.zero_le _) ⟨⟨_, Heap.get?_push_size _ rfl, rfl, rfl⟩, hl1.push _⟩
          ⟨0, Nat.le_refl 0, setR_new_at (Heap.get?_push_of_some _ hS)⟩ ?_
        intro s' c' hm hc' hS'
        obtain ⟨h', g2, d', tk', os'⟩ := s'
        have eg : g2 = s.gens := hm.gens
        have ed : d' = s.drawn := hm.drawn
        have eo : os' = s.os := hm.os
        subst eg ed eo
        show wpAny _ _ _ _ _ _
        refine wpAny_pure ?_
        show wpAny _ _ (ret Value.none) _ _ _
        rw [z0] at hc'
        refine wpAny_pure ⟨rfl, h', tk', c', rfl, hS', hc', fun b o e => ?_⟩
        have hb0 : b < s.heap.objs.size := Heap.lt_size e
        exact hm.heap b o (by rw [y5]; simp; exact ⟨Nat.ne_of_lt hb0, Nat.ne_of_lt (Nat.lt_succ_of_lt hb0)⟩) (Heap.get?_push_of_some _ (Heap.get?_push_of_some _ e))
      · cases r2 with
        | error e => exact hr2
        | ok f2 =>
          cases f2 with
          | ret r =>
            obtain ⟨rfl, h', tk, c', rfl, q1, q2, q3⟩ := hr2
            repeat (any_goals (first | assumption | wp_step))
            exact h _ _ _ q1 q2 q3
          | _ => exact hr2.elim
    | _ => exact hr.elim
end
end PD
set_option Elab.async false
set_option linter.all false
set_option maxRecDepth 100000
set_option maxHeartbeats 4000000
set_option autoImplicit false
namespace PD
open PySem PySem.Spec PyProof.Rows L2
def insS (k : Int) : List Int → List Int
  | [] => [k]
  | x :: xs => if k < x then k :: x :: xs else if k = x then x :: xs else x :: insS k xs
def setI : List Int → List Int
  | [] => []
  | n :: ns => insS n (setI ns)
theorem insS_mem {k j : Int} : ∀ {xs : List Int}, j ∈ insS k xs ↔ j = k ∨ j ∈ xs
  | [] => by simp [insS]
  | x :: xs => by
    unfold insS
    split
    · simp
    · split
      · next h => subst h; simp
      · simp only [List.mem_cons, insS_mem (xs := xs)]
        constructor
        · rintro (h | h | h) <;> simp [h]
        · rintro (h | h | h) <;> simp [h]
theorem insS_rise {k : Int} : ∀ {xs : List Int}, xs.Pairwise (· < ·) → (insS k xs).Pairwise (· < ·)
  | [], _ => by simp [insS]
  | x :: xs, h => by
    have h' := List.pairwise_cons.mp h
    unfold insS
    split
    · next hk =>
      refine List.pairwise_cons.mpr ⟨fun y hy => ?_, h⟩
      rcases List.mem_cons.mp hy with z | z
      · omega
      · have := h'.1 y z
        omega
    · split
      · exact h
      · next h1 h2 =>
        refine List.pairwise_cons.mpr ⟨fun y hy => ?_, insS_rise h'.2⟩
        rcases insS_mem.mp hy with z | z
        · omega
        · exact h'.1 y z
theorem setI_mem {k : Int} : ∀ {ns : List Int}, k ∈ setI ns ↔ k ∈ ns
  | [] => by simp [setI]
  | n :: ns => by simp [setI, insS_mem, setI_mem (ns := ns)]
theorem setI_rise : ∀ (ns : List Int), (setI ns).Pairwise (· < ·)
  | [] => .nil
  | n :: ns => insS_rise (setI_rise ns)
theorem rise_ext : ∀ {xs ys : List Int}, xs.Pairwise (· < ·) → ys.Pairwise (· < ·) → (∀ k, k ∈ xs ↔ k ∈ ys) → xs = ys
  | [], [], _, _, _ => rfl
  | [], y :: ys, _, _, h => absurd ((h y).2 (by simp)) (by simp)
  | x :: xs, [], _, _, h => absurd ((h x).1 (by simp)) (by simp)
  | x :: xs, y :: ys, hx, hy, h => by
    have hx' := List.pairwise_cons.mp hx
    have hy' := List.pairwise_cons.mp hy
    have e : x = y := by
      rcases List.mem_cons.mp ((h x).1 (by simp)) with z | z
      · exact z
      · rcases List.mem_cons.mp ((h y).2 (by simp)) with z' | z'
        · exact z'.symm
        · have a := hx'.1 y z'
          have b := hy'.1 x z
          omega
    subst e
    rw [rise_ext hx'.2 hy'.2 fun k => ?_]
    constructor
    · intro z
      rcases List.mem_cons.mp ((h k).1 (by simp [z])) with q | q
      · have := hx'.1 k z; omega
      · exact q
    · intro z
      rcases List.mem_cons.mp ((h k).2 (by simp [z])) with q | q
      · have := hy'.1 k z; omega
      · exact q
def lt64 (ns : List Int) : Bool := decide (ns.length < 64)
theorem setR_count {w : World} {h : Heap} {a : Addr} {ns : List Int} {n : Nat} (R : SetR w h a (fun j => decide (j ∈ ns)) n) : n = (setI ns).length := by
  obtain ⟨o, es, ep, t, _, _, _, _, nd, hm, _, _, hn, _⟩ := R
  have nd2 : (setI ns).Nodup := (setI_rise ns).imp fun h => by omega
  have pm : (es.toList.map keyOf).Perm (setI ns) := (List.perm_ext_iff_of_nodup nd nd2).mpr fun k => by rw [← hm k, setI_mem]; simp
  have := pm.length_eq
  rw [List.length_map, Array.length_toList] at this
  omega
end PD
set_option Elab.async false
set_option linter.all false
set_option maxRecDepth 100000
set_option maxHeartbeats 4000000
set_option autoImplicit false
namespace PD
open PySem L2
section
variable {X : Cx} {W : WX} {sc : Scope} {N : List Str} {Γ : List Sl} {e : Expr} {es : List Expr} {pos p : Pos} {α γ : Type} {ma : R α} {as : α → List AV} {Γ1 : α → List Sl}
theorem ev_callB (C : Cf0 X W sc N) {x : Str} {id : String} {r : List V → Hp → VK → Prop} {k : α → R γ} {av : γ → AV} {Γk : γ → List Sl} (hc : CallR X (.builtin id) r) (hg : glB sc x = true) (hm : X.mg x = none) (hv : bootBuiltins x = some (.builtin id)) (ha : EvA X W Γ (e :: es) ma as Γ1)
    (hk : ∀ a G H σ vs Q, Sta X.K G H σ (Γ1 a) → AVs X.K G H σ vs (as a) → Pst X W G H σ (k a) (fun z G' H' => ∀ w, Sta X.K G' H' σ (Γk z) → AVok X.K G' H' σ w (av z) → Q w H') → r vs H Q)
    (hn : x ≠ "__name__" := by decide +kernel) (hdb : (x == ("__debug__" : Str)) = false := by decide +kernel) (he : starEach (e :: es) X.env = (false, eval e X.env) :: starEach es X.env := by rfl) (hpl : (backTo pos (starEach es X.env)).any (·.1) = false := by rfl) :
    Ev X W Γ (.Call (.Name x p) (e :: es) [] pos) (ma.bind k) av Γk :=
  pe_imp (pe_callB hc (C.gl hg) hm hv ha hn hdb he hpl) fun σ H Q ⟨G, S, p⟩ => ⟨G, S, (Pst.bind p).imp fun a G1 H1 e1 p1 vs S1 h1 => hk a G1 H1 σ vs Q S1 h1 p1⟩
theorem ev_callT (C : Cf0 X W sc N) {x : Str} {T : String} {r : List V → Hp → VK → Prop} {k : α → R γ} {av : γ → AV} {Γk : γ → List Sl} (hc : CallR X (.type T) r) (hg : glB sc x = true) (hm : X.mg x = none) (hv : bootBuiltins x = some (.type T)) (ha : EvA X W Γ (e :: es) ma as Γ1)
    (hk : ∀ a G H σ vs Q, Sta X.K G H σ (Γ1 a) → AVs X.K G H σ vs (as a) → Pst X W G H σ (k a) (fun z G' H' => ∀ w, Sta X.K G' H' σ (Γk z) → AVok X.K G' H' σ w (av z) → Q w H') → r vs H Q)
    (hn : x ≠ "__name__" := by decide +kernel) (hdb : (x == ("__debug__" : Str)) = false := by decide +kernel) (he : starEach (e :: es) X.env = (false, eval e X.env) :: starEach es X.env := by rfl) (hpl : (backTo pos (starEach es X.env)).any (·.1) = false := by rfl) :
    Ev X W Γ (.Call (.Name x p) (e :: es) [] pos) (ma.bind k) av Γk :=
  pe_imp (pe_callTy hc (C.gl hg) hm hv ha hn hdb he hpl) fun σ H Q ⟨G, S, p⟩ => ⟨G, S, (Pst.bind p).imp fun a G1 H1 e1 p1 vs S1 h1 => hk a G1 H1 σ vs Q S1 h1 p1⟩
theorem evf_callB (C : Cf0 X W sc N) {x : Str} {id : String} {r : List V → Hp → VK → Prop} {k : α → R γ} {ds : γ → List PyData} {Γk : γ → List Sl} (hc : CallR X (.builtin id) r) (hg : glB sc x = true) (hm : X.mg x = none) (hv : bootBuiltins x = some (.builtin id)) (ha : EvA X W Γ (e :: es) ma as Γ1)
    (hk : ∀ a G H σ vs Q, Sta X.K G H σ (Γ1 a) → AVs X.K G H σ vs (as a) → Pst X W G H σ (k a) (fun z G' H' => ∀ q ws, Sta X.K G' H' σ (Γk z) → H' q = none → DnA X.K (rg G' true) H' ws (ds z) → Q (.ref q) (upd H' q (.lst ws))) → r vs H Q)
    (hn : x ≠ "__name__" := by decide +kernel) (hdb : (x == ("__debug__" : Str)) = false := by decide +kernel) (he : starEach (e :: es) X.env = (false, eval e X.env) :: starEach es X.env := by rfl) (hpl : (backTo pos (starEach es X.env)).any (·.1) = false := by rfl) :
    EvF X W Γ (.Call (.Name x p) (e :: es) [] pos) (ma.bind k) ds Γk :=
  pe_imp (pe_callB hc (C.gl hg) hm hv ha hn hdb he hpl) fun σ H Q ⟨G, S, p⟩ => ⟨G, S, (Pst.bind p).imp fun a G1 H1 e1 p1 vs S1 h1 => hk a G1 H1 σ vs Q S1 h1 p1⟩
theorem evf_callT (C : Cf0 X W sc N) {x : Str} {T : String} {r : List V → Hp → VK → Prop} {k : α → R γ} {ds : γ → List PyData} {Γk : γ → List Sl} (hc : CallR X (.type T) r) (hg : glB sc x = true) (hm : X.mg x = none) (hv : bootBuiltins x = some (.type T)) (ha : EvA X W Γ (e :: es) ma as Γ1)
    (hk : ∀ a G H σ vs Q, Sta X.K G H σ (Γ1 a) → AVs X.K G H σ vs (as a) → Pst X W G H σ (k a) (fun z G' H' => ∀ q ws, Sta X.K G' H' σ (Γk z) → H' q = none → DnA X.K (rg G' true) H' ws (ds z) → Q (.ref q) (upd H' q (.lst ws))) → r vs H Q)
    (hn : x ≠ "__name__" := by decide +kernel) (hdb : (x == ("__debug__" : Str)) = false := by decide +kernel) (he : starEach (e :: es) X.env = (false, eval e X.env) :: starEach es X.env := by rfl) (hpl : (backTo pos (starEach es X.env)).any (·.1) = false := by rfl) :
    EvF X W Γ (.Call (.Name x p) (e :: es) [] pos) (ma.bind k) ds Γk :=
  pe_imp (pe_callTy hc (C.gl hg) hm hv ha hn hdb he hpl) fun σ H Q ⟨G, S, p⟩ => ⟨G, S, (Pst.bind p).imp fun a G1 H1 e1 p1 vs S1 h1 => hk a G1 H1 σ vs Q S1 h1 p1⟩
end
def intsOf : List PyData → Option (List Int)
  | [] => some []
  | .int i :: ds => (intsOf ds).map (i :: ·)
  | _ => none
theorem intsOf_eq : ∀ {ds : List PyData} {ns : List Int}, intsOf ds = some ns → ds = ns.map PyData.int
  | [], _, h => by cases h; rfl
  | .int i :: ds, ns, h => by
    unfold intsOf at h
    cases e : intsOf ds with
    | none => rw [e] at h; cases h
    | some ms => rw [e] at h; cases h; rw [intsOf_eq e]; rfl
  | .none :: _, _, h => by cases h
  | .bool _ :: _, _, h => by cases h
  | .str _ :: _, _, h => by cases h
  | .list _ :: _, _, h => by cases h
  | .tuple _ :: _, _, h => by cases h
  | .dict _ :: _, _, h => by cases h
theorem intsOf_map : ∀ ns : List Int, intsOf (ns.map PyData.int) = some ns
  | [] => rfl
  | n :: ns => by simp [intsOf, intsOf_map ns]
def boolsOf : List PyData → Option (List Bool)
  | [] => some []
  | .bool i :: ds => (boolsOf ds).map (i :: ·)
  | _ => none
theorem boolsOf_eq : ∀ {ds : List PyData} {ns : List Bool}, boolsOf ds = some ns → ds = ns.map PyData.bool
  | [], _, h => by cases h; rfl
  | .bool i :: ds, ns, h => by
    unfold boolsOf at h
    cases e : boolsOf ds with
    | none => rw [e] at h; cases h
    | some ms => rw [e] at h; cases h; rw [boolsOf_eq e]; rfl
  | .none :: _, _, h => by cases h
  | .int _ :: _, _, h => by cases h
  | .str _ :: _, _, h => by cases h
  | .list _ :: _, _, h => by cases h
  | .tuple _ :: _, _, h => by cases h
  | .dict _ :: _, _, h => by cases h
section
variable {X : Cx} {W : WX} {sc : Scope} {N : List Str} {a b c e : Expr} {es : List Expr} {pos p : Pos} {f g : DF} {k : DA}
theorem callR_or {v : Value} {r1 r2 : List V → Hp → VK → Prop} (h1 : CallR X v r1) (h2 : CallR X v r2) : CallR X v (fun vs H Q => r1 vs H Q ∨ r2 vs H Q) := fun pins s σ H xs us Q I rv z => z.elim (h1 pins s σ H xs us Q I rv) (h2 pins s σ H xs us Q I rv)
def dB (q : List Sl → List AV → R AV) (k : DA) : DF := fun Γ => (k Γ).bind fun z => (q z.2 z.1).bind fun y => .val (y, z.2)
theorem ce_bB (C : Cf0 X W sc N) {x : Str} {id : String} {r : List V → Hp → VK → Prop} (q : List Sl → List AV → R AV) (hc : CallR X (.builtin id) r) (hg : glB sc x = true) (hm : X.mg x = none) (hv : bootBuiltins x = some (.builtin id)) (ha : CA X W (e :: es) k)
    (hk : ∀ as Γ2 G H σ vs Q, Sta X.K G H σ Γ2 → AVs X.K G H σ vs as → Pk X W G H σ ((q Γ2 as).bind fun y => .val (y, Γ2)) Q → r vs H Q)
    (hn : x ≠ "__name__" := by decide +kernel) (hdb : (x == ("__debug__" : Str)) = false := by decide +kernel) (he : starEach (e :: es) X.env = (false, eval e X.env) :: starEach es X.env := by rfl) (hpl : (backTo pos (starEach es X.env)).any (·.1) = false := by rfl) :
    CE X W (.Call (.Name x p) (e :: es) [] pos) (dB q k) := fun Γ => ev_callB (k := fun z : List AV × List Sl => (q z.2 z.1).bind fun y => .val (y, z.2)) C hc hg hm hv (ha Γ) (fun z G H σ vs Q S h p => hk z.1 z.2 G H σ vs Q S h p) hn hdb he hpl
theorem ce_bT (C : Cf0 X W sc N) {x : Str} {id : String} {r : List V → Hp → VK → Prop} (q : List Sl → List AV → R AV) (hc : CallR X (.type id) r) (hg : glB sc x = true) (hm : X.mg x = none) (hv : bootBuiltins x = some (.type id)) (ha : CA X W (e :: es) k)
    (hk : ∀ as Γ2 G H σ vs Q, Sta X.K G H σ Γ2 → AVs X.K G H σ vs as → Pk X W G H σ ((q Γ2 as).bind fun y => .val (y, Γ2)) Q → r vs H Q)
    (hn : x ≠ "__name__" := by decide +kernel) (hdb : (x == ("__debug__" : Str)) = false := by decide +kernel) (he : starEach (e :: es) X.env = (false, eval e X.env) :: starEach es X.env := by rfl) (hpl : (backTo pos (starEach es X.env)).any (·.1) = false := by rfl) :
    CE X W (.Call (.Name x p) (e :: es) [] pos) (dB q k) := fun Γ => ev_callT (k := fun z : List AV × List Sl => (q z.2 z.1).bind fun y => .val (y, z.2)) C hc hg hm hv (ha Γ) (fun z G H σ vs Q S h p => hk z.1 z.2 G H σ vs Q S h p) hn hdb he hpl
def Pn (X : Cx) (W : WX) (G : Gh) (H : Hp) (σ : St) (m : R (List PyData × List Sl)) (Q : VK) : Prop := Pst X W G H σ m fun z G' H' => ∀ q ws, Sta X.K G' H' σ z.2 → H' q = none → DnA X.K (rg G' true) H' ws z.1 → Q (.ref q) (upd H' q (.lst ws))
def dBN (q : List Sl → List AV → R (List PyData)) (k : DA) : DN := fun Γ => (k Γ).bind fun z => (q z.2 z.1).bind fun y => .val (y, z.2)
theorem cn_bB (C : Cf0 X W sc N) {x : Str} {id : String} {r : List V → Hp → VK → Prop} (q : List Sl → List AV → R (List PyData)) (hc : CallR X (.builtin id) r) (hg : glB sc x = true) (hm : X.mg x = none) (hv : bootBuiltins x = some (.builtin id)) (ha : CA X W (e :: es) k)
    (hk : ∀ as Γ2 G H σ vs Q, Sta X.K G H σ Γ2 → AVs X.K G H σ vs as → Pn X W G H σ ((q Γ2 as).bind fun y => .val (y, Γ2)) Q → r vs H Q)
    (hn : x ≠ "__name__" := by decide +kernel) (hdb : (x == ("__debug__" : Str)) = false := by decide +kernel) (he : starEach (e :: es) X.env = (false, eval e X.env) :: starEach es X.env := by rfl) (hpl : (backTo pos (starEach es X.env)).any (·.1) = false := by rfl) :
    CN X W (.Call (.Name x p) (e :: es) [] pos) (dBN q k) := fun Γ => evf_callB (k := fun z : List AV × List Sl => (q z.2 z.1).bind fun y => .val (y, z.2)) C hc hg hm hv (ha Γ) (fun z G H σ vs Q S h p => hk z.1 z.2 G H σ vs Q S h p) hn hdb he hpl
theorem cn_bT (C : Cf0 X W sc N) {x : Str} {id : String} {r : List V → Hp → VK → Prop} (q : List Sl → List AV → R (List PyData)) (hc : CallR X (.type id) r) (hg : glB sc x = true) (hm : X.mg x = none) (hv : bootBuiltins x = some (.type id)) (ha : CA X W (e :: es) k)
    (hk : ∀ as Γ2 G H σ vs Q, Sta X.K G H σ Γ2 → AVs X.K G H σ vs as → Pn X W G H σ ((q Γ2 as).bind fun y => .val (y, Γ2)) Q → r vs H Q)
    (hn : x ≠ "__name__" := by decide +kernel) (hdb : (x == ("__debug__" : Str)) = false := by decide +kernel) (he : starEach (e :: es) X.env = (false, eval e X.env) :: starEach es X.env := by rfl) (hpl : (backTo pos (starEach es X.env)).any (·.1) = false := by rfl) :
    CN X W (.Call (.Name x p) (e :: es) [] pos) (dBN q k) := fun Γ => evf_callT (k := fun z : List AV × List Sl => (q z.2 z.1).bind fun y => .val (y, z.2)) C hc hg hm hv (ha Γ) (fun z G H σ vs Q S h p => hk z.1 z.2 G H σ vs Q S h p) hn hdb he hpl
theorem Pn.v {G : Gh} {H : Hp} {σ : St} {ds : List PyData} {Γ : List Sl} {Q : VK} (h : Pn X W G H σ (.val (ds, Γ)) Q) (S : Sta X.K G H σ Γ) {q : Addr} {ws : List V} (hq : H q = none) (hd : DnA X.K (rg G true) H ws ds) : Q (.ref q) (upd H q (.lst ws)) := h G H (Ext.rf S.w) q ws S hq hd
def kLen (Γ : List Sl) : List AV → R AV
  | [x] => match rdD Γ x with
    | some (.list ds) => .val (.d true (.int (ds.length : Nat)))
    | some (.tuple ds) => .val (.d true (.int (ds.length : Nat)))
    | some (.str z) => gq (decide (z.length ≤ sizeLine)) (.d true (.int (z.length : Nat)))
    | _ => .bad
  | _ => .bad
theorem ce_len (C : Cf0 X W sc N) (hg : glB sc "len" = true) (hm : X.mg "len" = none) (ha : CA X W [e] k) (he : starEach [e] X.env = (false, eval e X.env) :: starEach [] X.env := by rfl) : CE X W (.Call (.Name "len" p) [e] [] pos) (dB kLen k) :=
  ce_bB C kLen (callR_or call_len_seq call_len_str) hg hm PySem.boot_len ha (fun as Γ2 G H σ vs Q S h q => by
    unfold kLen at q
    split at q
    · obtain ⟨v, rfl, hv⟩ := avs_one h
      split at q
      · rename_i ds hd
        obtain ⟨l, xs, rfl, g1, g2⟩ := dn_list ((rdD_ok hd).ok S hv)
        refine .inl ⟨l, xs, rfl, .inl g1.sq, Pk.v q S ?_⟩
        rw [g2.length]
        exact .int _
      · rename_i ds hd
        obtain ⟨l, xs, rfl, g1, g2⟩ := dn_tuple ((rdD_ok hd).ok S hv)
        refine .inl ⟨l, xs, rfl, .inr g1, Pk.v q S ?_⟩
        rw [g2.length]
        exact .int _
      · rename_i z hd
        rcases gq_cases (decide (z.length ≤ sizeLine)) (AV.d true (.int (z.length : Nat))) with e | ⟨hc, e⟩
        · rw [e] at q; exact q.elim
        · rw [e] at q
          exact .inr ⟨z, by rw [dn_str ((rdD_ok hd).ok S hv)], of_decide_eq_true hc, Pk.v q S (.int _)⟩
      · exact q.elim
    · exact q.elim) (by decide +kernel) (by decide +kernel) he
def kMax2 (_ : List Sl) : List AV → R AV
  | [.d _ (.int i), .d _ (.int j)] => .val (.d true (.int (max2 i j)))
  | _ => .bad
def kMin2 (_ : List Sl) : List AV → R AV
  | [.d _ (.int i), .d _ (.int j)] => .val (.d true (.int (min2 i j)))
  | _ => .bad
def rdInts (Γ : List Sl) (x : AV) : Option (List Int) := match rdD Γ x with
  | some (.list ds) => intsOf ds
  | _ => none
theorem rdInts_ok {G : Gh} {H : Hp} {σ : St} {Γ : List Sl} {x : AV} {v : V} {ns : List Int} (S : Sta X.K G H σ Γ) (hv : AVok X.K G H σ v x) (h : rdInts Γ x = some ns) : ∃ l, v = .ref l ∧ SqL X.K H l (ns.map V.int) := by
  unfold rdInts at h
  split at h
  · rename_i ds hd
    obtain ⟨l, xs, rfl, g1, g2⟩ := dn_list ((rdD_ok hd).ok S hv)
    rw [intsOf_eq h] at g2
    rw [dna_ints g2] at g1
    exact ⟨l, rfl, g1.sq⟩
  · cases h
theorem ofO_cases {α β : Type} {o : Option α} {k : α → R β} : (∃ y, o = some y ∧ (R.ofO o).bind k = k y) ∨ (R.ofO o).bind k = .bad := by
  cases o with
  | none => exact .inr rfl
  | some y => exact .inl ⟨y, rfl, rfl⟩
def rdBools (Γ : List Sl) (x : AV) : Option (List Bool) := match rdD Γ x with
  | some (.list ds) => boolsOf ds
  | _ => none
theorem rdBools_ok {G : Gh} {H : Hp} {σ : St} {Γ : List Sl} {x : AV} {v : V} {ns : List Bool} (S : Sta X.K G H σ Γ) (hv : AVok X.K G H σ v x) (h : rdBools Γ x = some ns) : ∃ l, v = .ref l ∧ SqL X.K H l (ns.map V.bl) := by
  unfold rdBools at h
  split at h
  · rename_i ds hd
    obtain ⟨l, xs, rfl, g1, g2⟩ := dn_list ((rdD_ok hd).ok S hv)
    rw [boolsOf_eq h] at g2
    rw [dna_bools g2] at g1
    exact ⟨l, rfl, g1.sq⟩
  · cases h
def kAll (Γ : List Sl) : List AV → R AV
  | [x] => (R.ofO (rdBools Γ x)).bind fun ns => .val (.d true (.bool (ns.all id)))
  | _ => .bad
theorem ce_all (C : Cf X W sc N) (hg : glB sc "all" = true) (hm : X.mg "all" = none) (ha : CA X W [e] k) (he : starEach [e] X.env = (false, eval e X.env) :: starEach [] X.env := by rfl) : CE X W (.Call (.Name "all" p) [e] [] pos) (dB kAll k) :=
  ce_bB C.toCf0 kAll (cr_all C.calm) hg hm PyProof.Rows.boot_all ha (fun as Γ2 G H σ vs Q S h q => by
    unfold kAll at q
    split at q
    · rename_i x
      obtain ⟨v, rfl, hv⟩ := avs_one h
      rcases ofO_cases (o := rdBools Γ2 x) (k := fun ns => R.val (AV.d true (.bool (ns.all id)))) with ⟨ns, e1, e2⟩ | e2
      · rw [e2] at q
        obtain ⟨l, rfl, hs⟩ := rdBools_ok S hv e1
        exact ⟨l, ns, rfl, hs, Pk.v q S (.bl _)⟩
      · rw [e2] at q; exact q.elim
    · exact q.elim) (by decide +kernel) (by decide +kernel) he
def kInt (_ : List Sl) : List AV → R AV
  | [.d _ (.int i)] => .val (.d true (.int i))
  | [.d _ (.bool z)] => .val (.d true (.int (b2n z)))
  | _ => .bad
theorem ce_intc (C : Cf0 X W sc N) (hg : glB sc "int" = true) (hm : X.mg "int" = none) (ha : CA X W [e] k) (he : starEach [e] X.env = (false, eval e X.env) :: starEach [] X.env := by rfl) : CE X W (.Call (.Name "int" p) [e] [] pos) (dB kInt k) :=
  ce_bT C kInt call_int1 hg hm PyProof.Rows.boot_int ha (fun as Γ2 G H σ vs Q S h q => by
    unfold kInt at q
    split at q
    · obtain ⟨v, rfl, hv⟩ := avs_one h
      exact .inl ⟨_, by rw [dn_int hv], Pk.v q S (.int _)⟩
    · obtain ⟨v, rfl, hv⟩ := avs_one h
      exact .inr ⟨_, by rw [dn_bool hv], Pk.v q S (.int _)⟩
    · exact q.elim) (by decide +kernel) (by decide +kernel) he
def rdSeq (Γ : List Sl) : AV → Option (List PyData × Bool)
  | .d fr (.list ds) => some (ds, fr)
  | .d fr (.tuple ds) => some (ds, fr)
  | .s i => match rdD Γ (.s i) with
    | some (.list ds) => some (ds, true)
    | _ => none
  | _ => none
theorem rdSeq_ok {G : Gh} {H : Hp} {σ : St} {Γ : List Sl} {x : AV} {v : V} {z : List PyData × Bool} (S : Sta X.K G H σ Γ) (hv : AVok X.K G H σ v x) (h : rdSeq Γ x = some z) : ∃ l xs, v = .ref l ∧ (SqL X.K H l xs ∨ H l = some (.tup xs)) ∧ DnA X.K (rg G z.2) H xs z.1 := by
  unfold rdSeq at h
  split at h
  · cases h
    obtain ⟨l, xs, rfl, g1, g2⟩ := dn_list hv
    exact ⟨l, xs, rfl, .inl (g1.mono (S.w.rgl _)).sq, g2⟩
  · cases h
    obtain ⟨l, xs, rfl, g1, g2⟩ := dn_tupleH hv
    exact ⟨l, xs, rfl, .inr g1, g2⟩
  · split at h
    · rename_i ds hd
      cases h
      obtain ⟨l, xs, rfl, g1, g2⟩ := S.slotL hd hv
      exact ⟨l, xs, rfl, .inl (SqL.of g1), g2⟩
    · cases h
  · cases h
def kTuple (Γ : List Sl) : List AV → R AV
  | [x] => (R.ofO (rdSeq Γ x)).bind fun z => .val (.d z.2 (.tuple z.1))
  | _ => .bad
theorem ce_tuple (C : Cf0 X W sc N) (hg : glB sc "tuple" = true) (hm : X.mg "tuple" = none) (ha : CA X W [e] k) (he : starEach [e] X.env = (false, eval e X.env) :: starEach [] X.env := by rfl) : CE X W (.Call (.Name "tuple" p) [e] [] pos) (dB kTuple k) :=
  ce_bT C kTuple call_tuple_of hg hm PyProof.Rows.boot_tuple ha (fun as Γ2 G H σ vs Q S h q => by
    unfold kTuple at q
    split at q
    · rename_i x
      obtain ⟨v, rfl, hv⟩ := avs_one h
      rcases ofO_cases (o := rdSeq Γ2 x) (k := fun z => R.val (AV.d z.2 (.tuple z.1))) with ⟨z, e1, e2⟩ | e2
      · rw [e2] at q
        obtain ⟨l, xs, rfl, hs, hd⟩ := rdSeq_ok S hv e1
        refine ⟨l, xs, rfl, hs.imp (fun hs => ⟨hs, fun l' hl => ?_⟩) fun hs => ⟨SqT.of hs, Pk.v q S (.tup hs hd)⟩⟩
        obtain ⟨G2, S2, e2, h2⟩ := S.newTup hl hd
        exact Pk.v' q e2 S2 h2
      · rw [e2] at q; exact q.elim
    · exact q.elim) (by decide +kernel) (by decide +kernel) he
def kList (Γ : List Sl) : List AV → R (List PyData)
  | [x] => (R.ofO (rdSeq Γ x)).bind fun z => gq (z.2 || flat.flatA z.1) z.1
  | _ => .bad
theorem cn_list (C : Cf0 X W sc N) (hg : glB sc "list" = true) (hm : X.mg "list" = none) (ha : CA X W [e] k) (he : starEach [e] X.env = (false, eval e X.env) :: starEach [] X.env := by rfl) : CN X W (.Call (.Name "list" p) [e] [] pos) (dBN kList k) :=
  cn_bT C kList call_list_of hg hm PyProof.Rows.boot_list ha (fun as Γ2 G H σ vs Q S h q => by
    unfold kList at q
    split at q
    · rename_i x
      obtain ⟨v, rfl, hv⟩ := avs_one h
      rcases ofO_cases (o := rdSeq Γ2 x) (k := fun z => gq (z.2 || flat.flatA z.1) z.1) with ⟨z, e1, e2⟩ | e2
      · rw [e2] at q
        obtain ⟨l, xs, rfl, hs, hd⟩ := rdSeq_ok S hv e1
        rcases gq_cases (z.2 || flat.flatA z.1) z.1 with e | ⟨hc, e⟩
        · rw [e] at q; exact q.elim
        · rw [e] at q
          refine ⟨l, xs, rfl, hs.imp id SqT.of, fun l' hl => Pn.v q S hl ?_⟩
          obtain ⟨ds, fr⟩ := z
          cases fr with
          | true => exact hd
          | false => exact hd.free (by simpa using hc)
      · rw [e2] at q; exact q.elim
    · exact q.elim) (by decide +kernel) (by decide +kernel) he
def kSorted (Γ : List Sl) : List AV → R (List PyData)
  | [x] => (R.ofO (rdInts Γ x)).bind fun ns => .val ((sortI ns).map PyData.int)
  | _ => .bad
theorem cn_sorted (C : Cf0 X W sc N) (hg : glB sc "sorted" = true) (hm : X.mg "sorted" = none) (ha : CA X W [e] k) (he : starEach [e] X.env = (false, eval e X.env) :: starEach [] X.env := by rfl) : CN X W (.Call (.Name "sorted" p) [e] [] pos) (dBN kSorted k) :=
  cn_bB C kSorted cr_sortedI hg hm PyProof.Rows.boot_sorted ha (fun as Γ2 G H σ vs Q S h q => by
    unfold kSorted at q
    split at q
    · rename_i x
      obtain ⟨v, rfl, hv⟩ := avs_one h
      rcases ofO_cases (o := rdInts Γ2 x) (k := fun ns => R.val ((sortI ns).map PyData.int)) with ⟨ns, e1, e2⟩ | e2
      · rw [e2] at q
        obtain ⟨l, rfl, hs⟩ := rdInts_ok S hv e1
        refine ⟨l, ns, rfl, hs, fun ns' p' hp hs' hp' => ?_⟩
        rw [sortI_unique hp hs']
        exact Pn.v q S hp' (ints_dna _)
      · rw [e2] at q; exact q.elim
    · exact q.elim) (by decide +kernel) (by decide +kernel) he
inductive Tn where
  | int | bool | str | list | tuple | dict
def Tn.nm : Tn → String
  | .int => "int"
  | .bool => "bool"
  | .str => "str"
  | .list => "list"
  | .tuple => "tuple"
  | .dict => "dict"
def tyIs : PyData → Tn → Bool
  | .bool _, .int => true
  | .bool _, .bool => true
  | .int _, .int => true
  | .str _, .str => true
  | .list _, .list => true
  | .tuple _, .tuple => true
  | .dict _, .dict => true
  | _, _ => false
theorem tyIs_kit (d : PyData) (t : Tn) : kitB (pyTy d) t.nm = some (tyIs d t) := by
  cases d <;> cases t <;> simp only [pyTy, Tn.nm, tyIs] <;> decide +kernel
def noDct : PyData → Bool
  | .dict _ => false
  | _ => true
theorem dn_ty {K : PySem.W.Frag} {H : Hp} {v : V} {d : PyData} (h : Dn K (RgH H) H v d) (hn : noDct d = true) : TyX K H v (.type (pyTy d)) := by
  cases h with
  | non => exact .base .non
  | bl b => exact .base (.bl b)
  | int i => exact .base (.int i)
  | str x => exact .base (.str x)
  | lst h _ =>
    rcases h.sq with (h | ⟨o, h⟩) | ⟨o, its, n, h1, h2, _⟩
    · exact .base (.lst h)
    · exact .base (.frz h)
    · exact .kList h1 h2
  | tup h _ => exact .base (.tup h)
  | dct _ _ _ => cases hn
  | exc _ _ _ _ => cases hn
  | exc0 _ => cases hn
  | ins _ _ _ _ => cases hn
  | dcu _ _ _ => cases hn
def dIsi (ts : List Tn) (f : DF) : DF := fun Γ => (f Γ).bind fun x => match rdD x.2 x.1 with
  | some d => gq (noDct d) (.d true (.bool (ts.any fun t => tyIs d t)), x.2)
  | none => .bad
theorem ce_isi (C : Cf0 X W sc N) (t : Tn) {T : Str} {p2 : Pos} (hg : glB sc "isinstance" = true) (hm : X.mg "isinstance" = none) (hgT : glB sc T = true) (hmT : X.mg T = none) (hv : bootBuiltins T = some (.type t.nm)) (ha : CE X W e f)
    (hnT : T ≠ "__name__" := by decide +kernel) (hdT : (T == ("__debug__" : Str)) = false := by decide +kernel) (hst : starEach [e, .Name T p2] X.env = (false, eval e X.env) :: starEach [.Name T p2] X.env := by rfl) (hst2 : starEach [.Name T p2] X.env = (false, eval (.Name T p2) X.env) :: starEach [] X.env := by rfl) :
    CE X W (.Call (.Name "isinstance" p) [e, .Name T p2] [] pos) (dIsi [t] f) := fun Γ => by
  have hT : PE X (.Name T p2) (tC (.ty t.nm)) := pe_bltn (C.gl hgT) hmT hv rfl hnT hdT
  refine pe_imp (pe_callB call_isi (C.gl hg) hm PyProof.Rows.boot_isinstance (pa_cons (ha Γ) (pa_cons hT pa_nil hst2) hst) (by decide +kernel) (by decide +kernel) hst (by rw [hst2]; rfl)) fun σ H Q ⟨G, S, q⟩ => ⟨G, S, (Pst.bind q).imp fun x G1 H1 e1 p1 v S1 hv => ?_⟩
  split at p1
  · rename_i d hd
    obtain ⟨hn, p1⟩ := Pst.gq S1.w p1
    refine ⟨v, .ty t.nm, .type (pyTy d), .type t.nm, tyIs d t, rfl, .ty t.nm, dn_ty ((rdD_ok hd).ok S1 hv) hn, kit_ty (tyIs_kit d t), ?_⟩
    have := p1 (.bl (tyIs d t)) S1 (by show Dn _ _ _ _ (.bool (tyIs d t || false)); rw [Bool.or_false]; exact .bl _)
    exact this
  · exact p1.elim
end
end PD
set_option Elab.async false
set_option linter.all false
set_option maxRecDepth 100000
set_option maxHeartbeats 4000000
set_option autoImplicit false
namespace PD
open PySem L2
def R.nox {α : Type} : R α → R α
  | .exc _ => .bad
  | m => m
abbrev WF : WX := fun _ _ _ _ => False
section
variable {X : Cx} {W : WX} {sc : Scope} {N : List Str} {Γ : List Sl}
theorem Cf.blk (C : Cf X W sc N) {s : Shared} {H : Hp} {scope : Scope} {cl : List (Str × Addr)} {c : Addr} {fp : List Addr} : Cf (X.blk s H scope (compEnvC scope cl c X.env) fp) WF (relS scope sc) N := by
  refine ⟨⟨?_, C.hN, C.nd, takes0, C.hu, PassesOwn.never, C.hu2⟩, C.calm⟩
  show relabel scope X.env = relS scope sc
  rw [← C.hsc]
  rfl
theorem Clee.blk {x : Str} {dvs : List V} {sp : Sp} (h : Clee X x dvs sp) {s : Shared} {H : Hp} {scope : Scope} {ce : Env} {fp : List Addr} : Clee (X.blk s H scope ce fp) x dvs sp := h
theorem Sta.wipeS {K : PySem.W.Frag} {G : Gh} {H : Hp} {σ : St} {Γ : List Sl} (S : Sta K G H σ Γ) : ∀ vs : List Nat, Sta K G H (L2.wipe σ vs) (wipeG Γ vs)
  | [] => S
  | v :: vs => (Sta.wipeS S vs).blank v none
theorem wipeG_at {Γ : List Sl} : ∀ {vs : List Nat} {i : Nat}, i ∈ vs → i < Γ.length → (wipeG Γ vs)[i]? = some .un
  | v :: vs, i, h, hl => by
    have hlen : ∀ ws : List Nat, (wipeG Γ ws).length = Γ.length := fun ws => by
      induction ws with
      | nil => rfl
      | cons w ws ih => simp [wipeG, ih]
    by_cases q : i = v
    · subst q
      exact List.getElem?_set_self (by rw [hlen]; exact hl)
    · have h' : i ∈ vs := by
        rcases List.mem_cons.mp h with z | z
        · exact absurd z q
        · exact z
      show ((wipeG Γ vs).set v .un)[i]? = some .un
      rw [List.getElem?_set_ne (Ne.symm q)]
      exact wipeG_at h' hl
theorem wipe_eq {σ σ' : St} {vs ts : List Nat} (hl : σ'.length = σ.length) (h : ∀ j, j ∉ ts → σ'[j]? = σ[j]?) (hs : ∀ j ∈ ts, j ∈ vs) : wipe σ' vs = wipe σ vs := by
  have at_ : ∀ (ρ : St) (ws : List Nat) (j : Nat), j ∈ ws → j < ρ.length → (wipe ρ ws)[j]? = some none := fun ρ ws => by
    induction ws with
    | nil => intro j hj; cases hj
    | cons w ws ih =>
      intro j hj hl
      by_cases q : j = w
      · subst q
        exact List.getElem?_set_self (by rw [wipe_length]; exact hl)
      · show ((wipe ρ ws).set w none)[j]? = some none
        rw [List.getElem?_set_ne (Ne.symm q)]
        refine ih j ?_ hl
        rcases List.mem_cons.mp hj with z | z
        · exact absurd z q
        · exact z
  refine List.ext_getElem? fun j => ?_
  by_cases hj : j ∈ vs
  · by_cases hlt : j < σ.length
    · rw [at_ σ' vs j hj (by rw [hl]; exact hlt), at_ σ vs j hj hlt]
    · rw [List.getElem?_eq_none (by rw [wipe_length, hl]; omega), List.getElem?_eq_none (by rw [wipe_length]; omega)]
  · rw [wipe_out hj, wipe_out hj]
    exact h j fun z => hj (hs j z)
def compU (vs : List Nat) (g : DG) (fr : Bool) (t : DT) (e : DF) : List PyData → List Sl → R (List PyData × List Sl)
  | [], Γ => .val ([], Γ)
  | d :: ds, Γ => (R.ofO (g fr d Γ)).bind fun Γ1 => (t Γ1).nox.bind fun x => if x.1 then (e x.2).nox.bind fun y => (R.ofO (avD y.1)).bind fun o => (compU vs g fr t e ds (wipeG y.2 vs)).bind fun r => .val (o :: r.1, r.2) else compU vs g fr t e ds (wipeG x.2 vs)
theorem compU_cons (vs : List Nat) (g : DG) (fr : Bool) (t : DT) (e : DF) (d : PyData) (ds : List PyData) (Γ : List Sl) : compU vs g fr t e (d :: ds) Γ = (R.ofO (g fr d Γ)).bind fun Γ1 => (t Γ1).nox.bind fun x => if x.1 then (e x.2).nox.bind fun y => (R.ofO (avD y.1)).bind fun o => (compU vs g fr t e ds (wipeG y.2 vs)).bind fun r => .val (o :: r.1, r.2) else compU vs g fr t e ds (wipeG x.2 vs) := rfl
def nComp (vs : List Nat) (g : DG) (it : DI) (t : DT) (e : DF) : DN := fun Γ => (it Γ).bind fun z => (R.req (szB z.1.1)).bind fun _ => compU vs g z.1.2 t e z.1.1 (wipeG z.2 vs)
def CTs (X : Cx) (W : WX) (es : List Expr) (f : DT) : Prop := ∀ Γ, PTs X es (rdT X W Γ (f Γ) Prod.fst Prod.snd)
theorem cts_one {e : Expr} {t : DT} (h : CT X W e t) : CTs X W [e] t := fun Γ => pts_one (h Γ)
def tYes : DT := fun Γ => .val (true, Γ)
theorem cts_nil : CTs X W [] tYes := fun Γ => ⟨fun pins s' σ H Q I ⟨G, S, p⟩ => pts_nil.run pins s' σ H Q I (p G H (Ext.rf S.w) S)⟩
variable {tg iter elt : Expr} {ifs : List Expr} {scope : Scope} {own : List (Str × Nat)} {pos : Pos} {it : DI} {g : DG} {t : DT} {e : DF} {ts : List Nat}
theorem comp_rdU (hts : ∀ j ∈ ts, j ∈ own.map (·.2)) {σ : St} {H : Hp} {Q : VK} (h : rdF X W Γ (nComp (own.map (·.2)) g it t e Γ) Prod.fst Prod.snd σ H Q) :
    tLc (rdIU X W Γ (it Γ)) (fun v σ H Q => ∃ G Γ fr d Γ', Sta X.K G H σ Γ ∧ Dn X.K (rg G fr) H v d ∧ g fr d Γ = some Γ' ∧ ∀ σ', σ'.length = σ.length → (∀ j, j ∉ ts → σ'[j]? = σ[j]?) → Sta X.K G H σ' Γ' → Q σ' H)
      (fun σ H Q => ∃ Γ1, rdT X WF Γ1 (t Γ1) Prod.fst Prod.snd σ H Q) (fun σ H Q => ∃ Γ1, rdE X WF Γ1 (e Γ1) Prod.fst Prod.snd σ H Q) (own.map (·.2)) σ H Q := by
  obtain ⟨G, S0, p⟩ := h
  refine ⟨G, S0, (Pst.bind p).imp fun r G1 H1 e1 p1 J S1 I D hD => ?_⟩
  generalize hvs : own.map (·.2) = vs at *
  obtain ⟨⟨items, fr⟩, Γ1⟩ := r
  obtain ⟨hsz, p1⟩ := Pst.req p1
  simp only at hsz p1 I S1
  have hsz : items.length ≤ sizeLine := of_decide_eq_true hsz
  have hE0 : G1.E D = none := by
    cases q : G1.E D with
    | none => rfl
    | some u => rw [(S1.w.ex D u q).1] at hD; cases hD
  have hID : ∀ j, G1.I j ≠ some (.ref D) := fun j h => by
    rcases S1.w.iv j D h with z | z | ⟨xs, z⟩
    · exact S1.w.pal D z hD
    · exact z hE0
    · rw [hD] at z; cases z
  have hww : L2.wipe (L2.wipe σ vs) vs = L2.wipe σ vs := wipe_eq (ts := vs) (wipe_length ..) (fun j hj => wipe_out hj) (fun j hj => hj)
  have nol : ∀ vs' : List V, (∀ xs, HO.lst vs' ≠ .tup xs) ∧ ∀ x y, HO.lst vs' ≠ .frz x y := fun vs' => ⟨fun _ z => (by cases z), fun _ _ z => (by cases z)⟩
  let cu : List PyData → List Sl → R (List PyData × List Sl) := compU vs g fr t e
  let body : Nat → Hp → Prop := fun i H2 => i ≤ items.length ∧ ∃ G2 s0 vacc bs, Sta X.K G2 H2 (L2.wipe σ vs) (wipeG s0 vs) ∧ Le G1 H1 G2 H2 ∧ G2.E = upd G1.E D (.lst vacc) ∧ G2.I = G1.I ∧ DnA X.K (rg G2 true) H2 vacc bs ∧ bs.length ≤ i ∧
    compU vs g fr t e items (wipeG Γ1 vs) = (compU vs g fr t e (items.drop i) (wipeG s0 vs)).bind fun z => .val (bs ++ z.1, z.2)
  refine ⟨fun i m H2 => m = items.length - i ∧ body i H2, ⟨_, rfl, Nat.zero_le _, ?_⟩, ?_⟩
  · have Sw : Sta X.K G1 H1 (L2.wipe σ vs) (wipeG Γ1 vs) := S1.wipeS vs
    obtain ⟨S2, t2⟩ := Sw.pin (o := .lst []) hD
    refine ⟨_, Γ1, [], [], S2, ⟨rfl, rfl, fun _ _ h => h, fun _ _ h => .inl h, t2, S2.w, fun a o h => by show upd G1.E D _ a = _; rw [upd_ne (fun z => by rw [z, hE0] at h; cases h)]; exact h⟩, rfl, rfl, .nil, Nat.le_refl _, ?_⟩
    rw [List.drop_zero]
    have : (fun z : List PyData × List Sl => R.val ([] ++ z.1, z.2)) = fun z => R.val z := rfl
    rw [this, R.bind_val]
  · rintro i m H2 ⟨rfl, hile, G2, s0, vacc, bs, S2, l2, hE2, hI2, d2, hbs, eq⟩
    by_cases hlt : i < items.length
    · rw [List.drop_eq_getElem_cons hlt, compU_cons, R.bind_assoc] at eq
      cases hg : g fr items[i] (wipeG s0 vs) with
      | none => rw [hg] at eq; rw [eq] at p1; exact p1.elim
      | some Γ3 =>
      rw [hg] at eq
      have eq : compU vs g fr t e items (wipeG Γ1 vs) = ((t Γ3).nox.bind fun x => if x.1 then (e x.2).nox.bind fun y => (R.ofO (avD y.1)).bind fun o => (compU vs g fr t e (items.drop (i + 1)) (wipeG y.2 vs)).bind fun r => .val (o :: r.1, r.2) else compU vs g fr t e (items.drop (i + 1)) (wipeG x.2 vs)).bind fun z => .val (bs ++ z.1, z.2) := eq
      rw [R.bind_assoc] at eq
      refine .inr ⟨I.go i G2 H2 hlt l2, body (i + 1), fun H' hb => ⟨_, (by omega), rfl, hb⟩, fun v H3 y => ?_⟩
      obtain ⟨G3, d, hd, e3, S3, dn⟩ := I.yl i G2 H2 _ _ v H3 hlt l2 S2 y
      have hx : d = items[i] := by
        rw [List.getElem?_eq_getElem hlt] at hd
        exact (Option.some.inj hd).symm
      subst hx
      refine ⟨G3, wipeG s0 vs, fr, items[i], Γ3, S3, dn, hg, fun σ2 l3 k3 S4 => ⟨(wipe_eq l3 k3 hts).trans hww, Γ3, G3, S4, ?_⟩⟩
      have hw2 : L2.wipe σ2 vs = L2.wipe σ vs := (wipe_eq l3 k3 hts).trans hww
      cases htt : t Γ3 with
      | bad => rw [htt] at eq; rw [eq] at p1; exact p1.elim
      | exc z => rw [htt] at eq; rw [eq] at p1; exact p1.elim
      | val x =>
        rw [htt] at eq
        intro G4 H4 e4 S5
        obtain ⟨b, Γ4⟩ := x
        have eq : compU vs g fr t e items (wipeG Γ1 vs) = (if b = true then (e Γ4).nox.bind fun y => (R.ofO (avD y.1)).bind fun o => (compU vs g fr t e (items.drop (i + 1)) (wipeG y.2 vs)).bind fun r => .val (o :: r.1, r.2) else compU vs g fr t e (items.drop (i + 1)) (wipeG Γ4 vs)).bind fun z => .val (bs ++ z.1, z.2) := eq
        have l4 : Le G1 H1 G4 H4 := (l2.tr e3.le).tr e4.le
        have hE4 : G4.E = upd G1.E D (.lst vacc) := e4.e.trans (e3.e.trans hE2)
        have hI4 : G4.I = G1.I := e4.i.trans (e3.i.trans hI2)
        have d4 : DnA X.K (rg G4 true) H4 vacc bs := e4.dna (e3.dna d2)
        cases b with
        | false =>
          refine itF ⟨hlt, G4, Γ4, vacc, bs, ?_, l4, hE4, hI4, d4, Nat.le_succ_of_le hbs, ?_⟩
          · rw [← hw2]
            exact S5.wipeS vs
          · rw [eq, if_neg (by simp)]
        | true =>
          rw [if_pos rfl, R.bind_assoc] at eq
          refine itT ⟨Γ4, G4, S5, ?_⟩
          cases hte : e Γ4 with
          | bad => rw [hte] at eq; rw [eq] at p1; exact p1.elim
          | exc z => rw [hte] at eq; rw [eq] at p1; exact p1.elim
          | val z =>
            rw [hte] at eq
            obtain ⟨av, Γ5⟩ := z
            have eq : compU vs g fr t e items (wipeG Γ1 vs) = ((R.ofO (avD av)).bind fun o => (compU vs g fr t e (items.drop (i + 1)) (wipeG Γ5 vs)).bind fun r => .val (o :: r.1, r.2)).bind fun z => .val (bs ++ z.1, z.2) := eq
            cases hav : avD av with
            | none => rw [hav] at eq; rw [eq] at p1; exact p1.elim
            | some o =>
            rw [hav] at eq
            have eq : compU vs g fr t e items (wipeG Γ1 vs) = ((compU vs g fr t e (items.drop (i + 1)) (wipeG Γ5 vs)).bind fun r => .val (o :: r.1, r.2)).bind fun z => .val (bs ++ z.1, z.2) := eq
            intro G5 H5 e5 yv S6 dy
            have dy : Dn X.K (rg G5 true) H5 yv o := by
              unfold avD at hav
              split at hav
              · cases hav; exact dy
              · cases hav
            have hE5 : G5.E = upd G1.E D (.lst vacc) := e5.e.trans hE4
            obtain ⟨S7, hHD, t7⟩ := (S6.wipeS vs).unpin hE5 hE0 (nol vacc).1 (nol vacc).2 (fun j => by rw [e5.i, hI4]; exact hID j)
            have hal : vacc.length = bs.length := d4.length
            refine ⟨vacc, hHD, by omega, ?_⟩
            obtain ⟨S8, t8⟩ := S7.pin (o := .lst (vacc ++ [yv])) del_same
            have hH : upd (PD.del H5 D) D (.lst (vacc ++ [yv])) = upd H5 D (.lst (vacc ++ [yv])) := by
              funext b
              by_cases q : b = D
              · subst q; rw [upd_same, upd_same]
              · rw [upd_ne q, upd_ne q, del_ne q]
            rw [hH] at S8 t8
            have t9 : TupLe H5 (upd H5 D (.lst (vacc ++ [yv]))) := t7.tr t8
            refine ⟨hlt, ⟨G5.H0, G5.P, G5.I, G5.N, upd G1.E D (.lst (vacc ++ [yv]))⟩, Γ5, vacc ++ [yv], bs ++ [o], ?_, ⟨(l4.tr e5.le).h0, (l4.tr e5.le).p, (l4.tr e5.le).n, (l4.tr e5.le).nn, (l4.tr e5.le).t.tr t9, S8.w, fun a o h => by show upd G1.E D _ a = _; rw [upd_ne (fun z => by rw [z, hE0] at h; cases h)]; exact h⟩, rfl, e5.i.trans hI4, ?_, ?_, ?_⟩
            · rw [← hw2]
              exact S8
            · exact ((e5.dna d4).append (.cons dy .nil)).mono (fun _ _ h => h) t9
            · rw [List.length_append]
              show bs.length + 1 ≤ i + 1
              omega
            · rw [eq, R.bind_assoc]
              congr 1
              funext q
              show R.val (bs ++ o :: q.1, q.2) = R.val (bs ++ [o] ++ q.1, q.2)
              rw [List.append_assoc]
              rfl
    · have ei : i = items.length := by omega
      subst ei
      refine .inl ⟨I.st G2 H2 l2, ?_⟩
      rw [List.drop_length] at eq
      have eq : compU vs g fr t e items (wipeG Γ1 vs) = .val (bs ++ [], wipeG s0 vs) := eq
      rw [List.append_nil] at eq
      rw [eq] at p1
      obtain ⟨S7, hHD, t7⟩ := S2.unpin hE2 hE0 (nol vacc).1 (nol vacc).2 (fun j => by rw [hI2]; exact hID j)
      have P := p1 ⟨G2.H0, G2.P, G2.I, G2.N, G1.E⟩ (PD.del H2 D) ⟨l2.h0, l2.p, hI2, rfl, l2.n, l2.nn, l2.t.tr t7, S7.w⟩ D vacc (S7.swap (wipe_length ..).symm fun j => ?_) del_same (d2.mono (fun _ _ h => h) t7)
      · rw [del_upd hHD] at P
        exact P
      · have hlen : ∀ ws : List Nat, (wipeG s0 ws).length = s0.length := fun ws => by
          induction ws with
          | nil => rfl
          | cons w ws ih => simp [wipeG, ih]
        by_cases hj : j ∈ vs
        · by_cases hjl : j < s0.length
          · exact .inr (wipeG_at hj hjl)
          · left
            obtain ⟨A7, Z7⟩ := S7
            have : s0.length = σ.length := by rw [← hlen vs, Z7.len, wipe_length]
            rw [List.getElem?_eq_none (by omega), List.getElem?_eq_none (by rw [wipe_length]; omega)]
        · exact .inl (wipe_out hj).symm
structure CompU (X : Cx) (W : WX) (sc : Scope) (N : List Str) (tg iter elt : Expr) (ifs : List Expr) (scope : Scope) (own : List (Str × Nat)) (ts : List Nat) (g : DG) (it : DI) (t : DT) (e : DF) : Prop where
  hin : CI X W tg iter it
  ok : blkC N sc scope own = true
  hg : ∀ (s : Shared) (H : Hp) (c : Addr) (cl : List (Str × Addr)) (fp : List Addr), CG (X.blk s H scope (compEnvC scope cl c X.env) fp) tg ts g
  ht : ∀ (s : Shared) (H : Hp) (c : Addr) (cl : List (Str × Addr)) (fp : List Addr), CTs (X.blk s H scope (compEnvC scope cl c X.env) fp) WF ifs t
  he : ∀ (s : Shared) (H : Hp) (c : Addr) (cl : List (Str × Addr)) (fp : List Addr), CE (X.blk s H scope (compEnvC scope cl c X.env) fp) WF elt e
  hts : ∀ j ∈ ts, j ∈ own.map (·.2)
  hs : ∀ x, foldedSetIterable iter X.env x = pure x
theorem cn_comp (C : Cf X W sc N) (h : CompU X W sc N tg iter elt ifs scope own ts g it t e) : CN X W (.ListComp elt [⟨tg, iter, ifs, 0⟩] scope pos) (nComp (own.map (·.2)) g it t e) := fun Γ => by
  have hB : BlkOk X.N X.env.scope scope own := by rw [C.hN, C.hsc]; exact blkOk_by h.ok
  refine pe_imp (pe_lc (g := fun v σ H Q => ∃ G Γ fr d Γ', Sta X.K G H σ Γ ∧ Dn X.K (rg G fr) H v d ∧ g fr d Γ = some Γ' ∧ ∀ σ' : St, List.length σ' = List.length σ → (∀ j, j ∉ ts → σ'[j]? = σ[j]?) → Sta X.K G H σ' Γ' → Q σ' H)
    (tt := fun σ H Q => ∃ Γ1, rdT X WF Γ1 (t Γ1) Prod.fst Prod.snd σ H Q) (te := fun σ H Q => ∃ Γ1, rdE X WF Γ1 (e Γ1) Prod.fst Prod.snd σ H Q)
    C.calm (by rw [C.hN]; exact C.nd) (h.hin Γ) hB (fun s H c cl fp => h.hg s H c cl fp) (fun s H c cl fp => ?_) (fun s H c cl fp => ?_) h.hs) fun σ H Q q => comp_rdU h.hts q
  · exact ⟨fun pins s' σ H' Q I ⟨z, q⟩ => (h.ht s H c cl fp z).run pins s' σ H' Q I q⟩
  · exact ⟨fun pins s' σ H' Q I ⟨z, q⟩ => (h.he s H c cl fp z).run pins s' σ H' Q I q⟩
theorem set_lc (C : Cf X W sc N) (hk : sc.kind = .function) {i : Nat} {y : Str} {py spos : Pos} (hN : N[i]? = some y) (hy : lclB sc y = true) (hl : (py.line == pos.line) = true) (hnn : (scope.names.any fun (n, k) => n == y && (k == .local || k == .cell)) = false)
    (h : CompU X W sc N tg iter elt ifs scope own ts g it t e) (Γ : List Sl) : PS X (.Assign [.Name y py] (.ListComp elt [⟨tg, iter, ifs, 0⟩] scope pos) spos) (fun D σ H => rdF X W Γ (nComp (own.map (·.2)) g it t e Γ) Prod.fst Prod.snd σ H fun v H1 => D.nx (σ.set i (some v)) H1) := by
  have hB : BlkOk X.N X.env.scope scope own := by rw [C.hN, C.hsc]; exact blkOk_by h.ok
  have hyl : X.env.scope.names.lookup y = some .local := by
    rw [C.hsc]
    unfold lclB at hy
    split at hy
    · assumption
    · cases hy
  refine ps_imp (ps_setLc (g := fun v σ H Q => ∃ G Γ fr d Γ', Sta X.K G H σ Γ ∧ Dn X.K (rg G fr) H v d ∧ g fr d Γ = some Γ' ∧ ∀ σ' : St, List.length σ' = List.length σ → (∀ j, j ∉ ts → σ'[j]? = σ[j]?) → Sta X.K G H σ' Γ' → Q σ' H)
    (tt := fun σ H Q => ∃ Γ1, rdT X WF Γ1 (t Γ1) Prod.fst Prod.snd σ H Q) (te := fun σ H Q => ∃ Γ1, rdE X WF Γ1 (e Γ1) Prod.fst Prod.snd σ H Q)
    C.calm (by rw [C.hN]; exact C.nd) (by rw [C.hN]; exact hN) hyl (sw_true (by rw [C.hsc]; exact hk) hyl hl hnn) (h.hin Γ) hB (fun s H c cl fp => h.hg s H c cl fp) (fun s H c cl fp => ?_) (fun s H c cl fp => ?_) h.hs) fun D σ H q => comp_rdU h.hts q
  · exact ⟨fun pins s' σ H' Q I ⟨z, q⟩ => (h.ht s H c cl fp z).run pins s' σ H' Q I q⟩
  · exact ⟨fun pins s' σ H' Q I ⟨z, q⟩ => (h.he s H c cl fp z).run pins s' σ H' Q I q⟩
theorem c1_lcC (C : Cf X W sc N) (hk : sc.kind = .function) (i : Nat) {y : Str} {py spos : Pos} (hN : N[i]? = some y) (hy : lclB sc y = true) (h : CompU X W sc N tg iter elt ifs scope own ts g it t e) (hl : (py.line == pos.line) = true := by rfl) (hnn : (scope.names.any fun (n, k) => n == y && (k == .local || k == .cell)) = false := by decide +kernel) :
    C1 X W (.Assign [.Name y py] (.ListComp elt [⟨tg, iter, ifs, 0⟩] scope pos) spos) (bSetC i (nL (nComp (own.map (·.2)) g it t e))) := fun Γ =>
  ps_imp (set_lc C hk hN hy hl hnn h Γ) fun D σ H ⟨G, S, p⟩ => by
    have p : Pst X W G H σ (((nComp (own.map (·.2)) g it t e Γ).bind fun z => .val (.lst z.1, z.2)).bind fun z : Cl × List Sl => .val (Fw.nx, z.2.set i (.own z.1))) (fun z G' H' => FinU X.K G' H' D z.2 z.1) := p
    rw [R.bind_assoc] at p
    refine ⟨G, S, (Pst.bind p).imp fun z G1 H1 e1 p1 q vs S1 hq hd => ?_⟩
    obtain ⟨S2, e2⟩ := S1.putC i (newc_lst hq hd)
    exact p1 G1 _ e2 _ S2
theorem c1_lcD (C : Cf X W sc N) (hk : sc.kind = .function) (i : Nat) {y : Str} {py spos : Pos} (hN : N[i]? = some y) (hy : lclB sc y = true) (h : CompU X W sc N tg iter elt ifs scope own ts g it t e) (hl : (py.line == pos.line) = true := by rfl) (hnn : (scope.names.any fun (n, k) => n == y && (k == .local || k == .cell)) = false := by decide +kernel) :
    C1 X W (.Assign [.Name y py] (.ListComp elt [⟨tg, iter, ifs, 0⟩] scope pos) spos) (bSet i (dOfN (nComp (own.map (·.2)) g it t e))) := fun Γ =>
  ps_imp (set_lc C hk hN hy hl hnn h Γ) fun D σ H ⟨G, S, p⟩ => by
    have p : Pst X W G H σ (((nComp (own.map (·.2)) g it t e Γ).bind fun z => .val (.d true (.list z.1), z.2)).bind fun z : AV × List Sl => (R.ofO (asSl z.1)).bind fun s => .val (Fw.nx, z.2.set i s)) (fun z G' H' => FinU X.K G' H' D z.2 z.1) := p
    rw [R.bind_assoc] at p
    refine ⟨G, S, (Pst.bind p).imp fun z G1 H1 e1 p1 q vs S1 hq hd => ?_⟩
    obtain ⟨G2, S2, e2, d2⟩ := (newc_lst hq hd).frz S1 rfl
    exact p1 G2 _ e2 _ (S2.put i d2)
end
end PD
set_option Elab.async false
set_option linter.all false
set_option maxRecDepth 100000
set_option maxHeartbeats 4000000
set_option autoImplicit false
namespace PD
open PySem L2
def cellL (Γ : List Sl) (i : Nat) : Option (Bool × List PyData) := match Γ[i]? with
  | some (.own (.lst ds)) => some (false, ds)
  | some (.io (.lst ds)) => some (true, ds)
  | _ => none
theorem cellL_ok {Γ : List Sl} {i : Nat} {z : Bool × List PyData} (h : cellL Γ i = some z) : Γ[i]? = some (mkS z.1 (.lst z.2)) := by
  unfold cellL at h
  split at h
  · cases h; exact ‹_›
  · cases h; exact ‹_›
  · cases h
section
variable {X : Cx} {W : WX} {sc : Scope} {N : List Str} {o e e2 : Expr} {es : List Expr} {apos cpos pos p : Pos} {k : DA} {f g : DF}
def dLm (i : Nat) (q : List PyData → List AV → R (PyData × List PyData)) (k : DA) : DF := fun Γ => (R.ofO (cellL Γ i)).bind fun _ => (k Γ).bind fun z => (R.ofO (cellL z.2 i)).bind fun c => (q c.2 z.1).bind fun y => .val (.d true y.1, z.2.set i (mkS c.1 (.lst y.2)))
theorem evp_cell (C : Cf0 X W sc N) {Γ : List Sl} {i : Nat} {x : Str} {io : Bool} {c : Cl} (h : Γ[i]? = some (mkS io c)) (hN : N[i]? = some x) (hv : visB sc x = true) (hd : (x == ("__debug__" : Str)) = false := by decide +kernel) (hcd : (x == ("__classdict__" : Str)) = false := by decide +kernel) : EvP X W Γ (.Name x p) (.s i) := by
  cases io with
  | true => exact evp_slot C (.inr (.inl h)) hN hv hd hcd
  | false => exact evp_slot C (.inl h) hN hv hd hcd
theorem ce_lm (C : Cf0 X W sc N) {name : Str} {id : String} {r : V → List V → Hp → VK → Prop} (q : List PyData → List AV → R (PyData × List PyData)) (slot : Slot "list" name id) (hty : typeOf (.builtin id) = pure (.type "method_descriptor")) (hm : MtR X id r)
    (hk : ∀ as ds G H σ p ws Q, H p = some (.lst ws) → DnA X.K (rg G true) H ws ds → (∀ vs, AVs X.K G H σ vs as → (∀ y, q ds as = .val y → ∃ ws' v, DnA X.K (rg G true) H ws' y.2 ∧ Dn X.K (rg G true) H v y.1 ∧ (Q v (upd H p (.lst ws')) → r (.ref p) vs H Q))))
    (i : Nat) {x : Str} (hN : N[i]? = some x) (hv : visB sc x = true) (ha : CA X W (e :: es) k) (hq : ∀ ds as z, q ds as ≠ .exc z)
    (hd : (x == ("__debug__" : Str)) = false := by decide +kernel) (hcd : (x == ("__classdict__" : Str)) = false := by decide +kernel)
    (hfew : ((backTo cpos (starEach (e :: es) X.env)).all (fun x => !x.1) && (backToKw cpos (keywordEach [] X.env)).all (fun x => x.1.isSome) && decide ((e :: es).length + ([] : List Keyword).length + (if ([] : List Keyword).isEmpty then 0 else 1) < 30)) = true := by rfl)
    (hline : (apos.endLine == cpos.line) = true := by rfl) (hs : starEach (e :: es) X.env = (false, eval e X.env) :: starEach es X.env := by rfl) (hplain : (backTo cpos (starEach es X.env)).any (·.1) = false := by rfl)
    (hbase : attributeBase (.Name x p) name X.env (eval (.Name x p) X.env) = eval (.Name x p) X.env := by rfl) :
    CE X W (.Call (.Attribute (.Name x p) name apos) (e :: es) [] cpos) (dLm i q k) := fun Γ => by
  unfold dLm
  cases h0 : cellL Γ i with
  | none => exact ev_bad
  | some c0 =>
    have ho := evp_cell (W := W) (p := p) C (cellL_ok h0) hN hv hd hcd
    refine pe_imp (pe_bm PySem.F.plainAttrs_list slot hty hm ho (ha Γ) hbase hfew hline hs hplain) fun σ H Q ⟨G, S, pp⟩ => ⟨G, S, fun G1 H1 e1 v S1 hx => ?_⟩
    obtain ⟨l, vs, g1, g2, g3, _⟩ := S1.chg i c0.1 (cellL_ok h0)
    have hx : σ[i]? = some (some v) := hx
    rw [g1] at hx
    cases hx
    have pp : Pst X W G H σ ((k Γ).bind fun z => (R.ofO (cellL z.2 i)).bind fun c => (q c.2 z.1).bind fun y => .val (AV.d true y.1, z.2.set i (mkS c.1 (.lst y.2)))) _ := pp
    refine ⟨.inl ⟨rfl, vs, SqL.of g2⟩, G1, S1, (Pst.bind (Pst.ext pp e1)).imp fun z G2 H2 e2 p2 ws S2 hw => ?_⟩
    obtain ⟨c, hc, p2⟩ := Pst.ofO p2
    obtain ⟨l', vs', k1, k2, k3, k4⟩ := S2.chg i c.1 (cellL_ok hc)
    rw [g1] at k1
    cases k1
    cases hy : q c.2 z.1 with
    | bad => rw [hy] at p2; exact p2.elim
    | exc z => exact absurd hy (hq _ _ _)
    | val y =>
      rw [hy] at p2
      obtain ⟨ws', v, m1, m2, m3⟩ := hk z.1 c.2 G2 H2 σ l vs' Q k2 k3 ws hw y hy
      obtain ⟨S3, e3⟩ := k4 ws' y.2 m1
      exact m3 (p2 G2 _ e3 v S3 (e3.dn m2))
theorem ce_lm0 (C : Cf0 X W sc N) {name : Str} {id : String} {r : V → List V → Hp → VK → Prop} (q : List PyData → List AV → R (PyData × List PyData)) (slot : Slot "list" name id) (hty : typeOf (.builtin id) = pure (.type "method_descriptor")) (hm : MtR X id r)
    (hk : ∀ ds G H p ws Q, H p = some (.lst ws) → DnA X.K (rg G true) H ws ds → (∀ y, q ds [] = .val y → ∃ ws' v, DnA X.K (rg G true) H ws' y.2 ∧ Dn X.K (rg G true) H v y.1 ∧ (Q v (upd H p (.lst ws')) → r (.ref p) [] H Q)))
    (i : Nat) {x : Str} (hN : N[i]? = some x) (hv : visB sc x = true) (hq : ∀ ds as z, q ds as ≠ .exc z)
    (hd : (x == ("__debug__" : Str)) = false := by decide +kernel) (hcd : (x == ("__classdict__" : Str)) = false := by decide +kernel)
    (hline : (apos.endLine == cpos.line) = true := by rfl) (hbase : attributeBase (.Name x p) name X.env (eval (.Name x p) X.env) = eval (.Name x p) X.env := by rfl) :
    CE X W (.Call (.Attribute (.Name x p) name apos) [] [] cpos) (dLm i q dA0) := fun Γ => by
  unfold dLm
  cases h0 : cellL Γ i with
  | none => exact ev_bad
  | some c0 =>
    have ho := evp_cell (W := W) (p := p) C (cellL_ok h0) hN hv hd hcd
    refine pe_imp (pe_bm0 PySem.F.plainAttrs_list slot hty hm ho hbase hline) fun σ H Q ⟨G, S, pp⟩ => ⟨G, S, fun G1 H1 e1 v S1 hx => ?_⟩
    obtain ⟨l, vs, g1, g2, g3, k4⟩ := S1.chg i c0.1 (cellL_ok h0)
    have hx : σ[i]? = some (some v) := hx
    rw [g1] at hx
    cases hx
    refine ⟨.inl ⟨rfl, vs, SqL.of g2⟩, ?_⟩
    have pp : Pst X W G H σ ((R.ofO (cellL Γ i)).bind fun c => (q c.2 []).bind fun y => .val (AV.d true y.1, Γ.set i (mkS c.1 (.lst y.2)))) _ := pp
    obtain ⟨c, hc, p2⟩ := Pst.ofO (Pst.ext pp e1)
    rw [h0] at hc
    cases hc
    cases hy : q c0.2 [] with
    | bad => rw [hy] at p2; exact p2.elim
    | exc z => exact absurd hy (hq _ _ _)
    | val y =>
      rw [hy] at p2
      obtain ⟨ws', v, m1, m2, m3⟩ := hk c0.2 G1 H1 l vs Q g2 g3 y hy
      obtain ⟨S3, e3⟩ := k4 ws' y.2 m1
      exact m3 (p2 G1 _ e3 v S3 (e3.dn m2))
def qAppend (ds : List PyData) : List AV → R (PyData × List PyData)
  | [.d true y] => gq (ltS ds) (.none, ds ++ [y])
  | _ => .bad
theorem gq_val {α : Type} {c : Bool} {a b : α} (h : gq c a = .val b) : c = true ∧ b = a := by
  cases c with
  | false => cases h
  | true => cases h; exact ⟨rfl, rfl⟩
theorem gq_nox {α : Type} {c : Bool} {a : α} {z : Exn} : gq c a ≠ .exc z := by cases c <;> intro h <;> cases h
theorem ce_append (C : Cf0 X W sc N) (i : Nat) {x : Str} (hN : N[i]? = some x) (hv : visB sc x = true) (ha : CE X W e f) (hs : starEach [e] X.env = (false, eval e X.env) :: starEach [] X.env := by rfl) (hd : (x == ("__debug__" : Str)) = false := by decide +kernel) (hcd : (x == ("__classdict__" : Str)) = false := by decide +kernel) (hline : (apos.endLine == cpos.line) = true := by rfl)
    (hbase : attributeBase (.Name x p) "append" X.env (eval (.Name x p) X.env) = eval (.Name x p) X.env := by rfl) : CE X W (.Call (.Attribute (.Name x p) "append" apos) [e] [] cpos) (dLm i qAppend (dAc (dFrz f) dA0)) := by
  refine ce_lm C qAppend PySem.F.slot_list_append PySem.F.type_list_append mt_append (fun as ds G H σ p ws Q hp hd vs av y hy => ?_) i hN hv (ca_cons (ce_frz ha) ca_nil hs) (fun ds as z h => ?_) hd hcd (by rw [hs]; rfl) hline hs rfl hbase
  · unfold qAppend at hy
    split at hy
    · rename_i z
      obtain ⟨hc, rfl⟩ := gq_val hy
      obtain ⟨v, rfl, hv⟩ := avs_one av
      have hv : Dn X.K (rg G true) H v z := hv
      exact ⟨ws ++ [v], .non, hd.append (.cons hv .nil), .non, fun q => ⟨p, ws, v, rfl, rfl, hp, by rw [hd.length]; exact of_decide_eq_true hc, q⟩⟩
    · cases hy
  · unfold qAppend at h
    split at h
    · exact gq_nox h
    · cases h
def insI {β : Type} (xs : List β) (n : Int) (y : β) : List β := xs.take n.toNat ++ [y] ++ xs.drop n.toNat
def cIns {β : Type} (xs : List β) (n : Int) : Bool := decide (xs.length < sizeLine) && decide (0 ≤ n ∧ n < 2 ^ 63)
def qInsert (ds : List PyData) : List AV → R (PyData × List PyData)
  | [.d _ (.int n), .d true y] => gq (cIns ds n) (.none, insI ds n y)
  | _ => .bad
def qPop (ds : List PyData) (_ : List AV) : R (PyData × List PyData) := (R.ofO ds.getLast?).bind fun y => .val (y, ds.dropLast)
end
end PD
set_option Elab.async false
set_option linter.all false
set_option maxRecDepth 100000
set_option maxHeartbeats 4000000
set_option autoImplicit false
namespace PD
open PySem L2
theorem Sta.chg1 {K : PySem.W.Frag} {G : Gh} {H : Hp} {σ : St} {Γ : List Sl} {c : Cl} (s : Sta K G H σ Γ) (i : Nat) (io : Bool) (hi : Γ[i]? = some (mkS io c)) :
    ∃ v fp, σ[i]? = some (some v) ∧ c.ok K (rg G true) H v fp ∧ ∀ p o o' c', fp = [p] → H p = some o → (∀ xs, o ≠ .tup xs) → (∀ x y, o ≠ .frz x y) → c'.ok K (rg G true) (upd H p o') v [p] → Sta K G (upd H p o') σ (Γ.set i (mkS io c')) ∧ Ext G H G (upd H p o') := by
  obtain ⟨A, S⟩ := s
  have key : ∃ v, σ[i]? = some (some v) ∧ c.ok K (RgN G) H v (A i) ∧ ∀ (H' : Hp) (c' : Cl) (fp' : List Addr), c'.ok K (RgN G) H' v fp' → (∀ p ∈ fp', p ∈ A i) → SlOk K G H' i σ[i]? fp' (mkS io c') := by
    cases io with
    | true =>
      obtain ⟨v, h1, h2, h3⟩ := S.sl i _ hi
      exact ⟨v, h1, h3, fun H' c' fp' k _ => ⟨v, h1, h2, k⟩⟩
    | false =>
      obtain ⟨v, h1, h2, h3⟩ := S.sl i _ hi
      exact ⟨v, h1, h3, fun H' c' fp' k q => ⟨v, h1, fun p hp => h2 p (q p hp), k⟩⟩
  obtain ⟨v, h1, hc, mk⟩ := key
  refine ⟨v, A i, h1, hc, fun p o o' c' hfp hp ht hz hc' => ?_⟩
  have hpA : p ∈ A i := by rw [hfp]; simp
  have hN : G.N p = none := (S.al i p hpA).2.1
  have g : Grow G H G.N (upd H p o') [p] := grow_mut S.w hp hN ht hz
  refine S.step (i := i) (fp' := [p]) (s' := mkS io c') (σ' := σ) g (fun q hq => ?_) (fun j hj => rfl) rfl (fun hlt => mk _ c' [p] hc' fun q hq => ?_) (fun q hq => ?_)
  · have : q = p := by simpa using hq
    rw [this]; exact hpA
  · have : q = p := by simpa using hq
    rw [this]; exact hpA
  · have : q = p := by simpa using hq
    rw [this]
    exact ⟨by rw [upd_same]; simp, hN, .inl hpA⟩
section
variable {X : Cx} {W : WX} {sc : Scope} {N : List Str} {a b e e2 o : Expr} {es : List Expr} {apos cpos pos p : Pos} {k : DA} {f g : DF} {s : Stmt}
theorem u1 (C : Cf0 X W sc N) : X.A.units + 1 < cLine := by have := C.hu2; omega
theorem u65 (C : Cf0 X W sc N) : X.A.units + 65 < cLine := by have := C.hu2; omega
def bBad : DS := fun _ => .bad
theorem ce_globI (C : Cf0 X W sc N) {x : Str} {v : Int} (h : ∃ t, X.mg x = some (.int v t)) (hg : glB sc x = true) (hdb : (x == ("__debug__" : Str)) = false := by decide +kernel) : CE X W (.Name x pos) (dC (.int v)) := by
  obtain ⟨t, h⟩ := h
  exact ce_glob C hg h (v := .int v) ⟨t, rfl⟩ (fun _ _ => .int v) hdb
theorem ce_insert (C : Cf0 X W sc N) (i : Nat) {x : Str} (hN : N[i]? = some x) (hv : visB sc x = true) (ha : CE X W e f) (hb : CE X W e2 g) (hs : starEach [e, e2] X.env = (false, eval e X.env) :: starEach [e2] X.env := by rfl) (hs2 : starEach [e2] X.env = (false, eval e2 X.env) :: starEach [] X.env := by rfl) (hd : (x == ("__debug__" : Str)) = false := by decide +kernel) (hcd : (x == ("__classdict__" : Str)) = false := by decide +kernel) (hline : (apos.endLine == cpos.line) = true := by rfl)
    (hbase : attributeBase (.Name x p) "insert" X.env (eval (.Name x p) X.env) = eval (.Name x p) X.env := by rfl) : CE X W (.Call (.Attribute (.Name x p) "insert" apos) [e, e2] [] cpos) (dLm i qInsert (dAc f (dAc (dFrz g) dA0))) := by
  refine ce_lm C qInsert PySem.F.slot_list_insert PySem.F.type_list_insert mt_insert (fun as ds G H σ p ws Q hp hd vs av y hy => ?_) i hN hv (ca_cons ha (ca_cons (ce_frz hb) ca_nil hs2) hs) (fun ds as z h => ?_) hd hcd (by rw [hs, hs2]; rfl) hline hs (by rw [hs2]; rfl) hbase
  · unfold qInsert at hy
    split at hy
    · rename_i n z
      obtain ⟨hc, rfl⟩ := gq_val hy
      obtain ⟨u, v, rfl, hu, hv⟩ := avs_two av
      have hv : Dn X.K (rg G true) H v z := hv
      unfold cIns at hc
      rw [Bool.and_eq_true] at hc
      have c2 : 0 ≤ n ∧ n < 2 ^ 63 := of_decide_eq_true hc.2
      exact ⟨_, .non, ((hd.take n.toNat).append (.cons hv .nil)).append (hd.drop n.toNat), .non, fun q => ⟨p, ws, n, v, rfl, by rw [dn_int hu], hp, by rw [hd.length]; exact of_decide_eq_true hc.1, c2.1, c2.2, q⟩⟩
    · cases hy
  · unfold qInsert at h
    split at h
    · exact gq_nox h
    · cases h
def qClear (ds : List PyData) (_ : List AV) : R (PyData × List PyData) := .val (.none, [])
theorem ce_clear (C : Cf0 X W sc N) (i : Nat) {x : Str} (hN : N[i]? = some x) (hv : visB sc x = true) (hd : (x == ("__debug__" : Str)) = false := by decide +kernel) (hcd : (x == ("__classdict__" : Str)) = false := by decide +kernel) (hline : (apos.endLine == cpos.line) = true := by rfl)
    (hbase : attributeBase (.Name x p) "clear" X.env (eval (.Name x p) X.env) = eval (.Name x p) X.env := by rfl) : CE X W (.Call (.Attribute (.Name x p) "clear" apos) [] [] cpos) (dLm i qClear dA0) :=
  ce_lm0 C qClear PySem.F.slot_list_clear PySem.F.type_list_clear mt_clear (fun ds G H p ws Q hp hd y hy => by
    cases hy
    exact ⟨[], .non, .nil, .non, fun q => ⟨p, ws, rfl, rfl, hp, q⟩⟩) i hN hv (fun ds as z h => by cases h) hd hcd hline hbase
def rSetD : V → V → V → Hp → (Hp → Prop) → Prop := fun o i v H Q => ∃ a H', o = .ref a ∧ DPut H a i v H' ∧ Q H'
theorem set_dict (hu : X.A.units + 1 < cLine) : PSet X rSetD := by
  intro pins s σ H o i v ov iv u Q I ro ri rv h
  obtain ⟨a, H', rfl, g, q⟩ := h
  cases ro
  exact d_setItem hu I g ri rv fun s' I' => ⟨H', I', q⟩
theorem set_or {t1 t2 : V → V → V → Hp → (Hp → Prop) → Prop} (h1 : PSet X t1) (h2 : PSet X t2) : PSet X (fun o i v H Q => t1 o i v H Q ∨ t2 o i v H Q) := fun pins s σ H o i v ov iv u Q I ro ri rv h => h.elim (h1 pins s σ H o i v ov iv u Q I ro ri rv) (h2 pins s σ H o i v ov iv u Q I ro ri rv)
def dKey : PyData → Option Key
  | .int i => some (.inl i)
  | .str x => some (.inr x)
  | _ => none
def dKeys : List PyData → Option (List Key)
  | [] => some []
  | d :: ds => (dKey d).bind fun k => (dKeys ds).map (k :: ·)
theorem dKey_eq {d : PyData} {k : Key} (h : dKey d = some k) : d = keyD k := by
  cases d <;> simp only [dKey] at h <;> cases h <;> rfl
theorem dKey_ok {K : PySem.W.Frag} {G : Rg} {H : Hp} {v : V} {d : PyData} {k : Key} (h : dKey d = some k) (hv : Dn K G H v d) : v = kV k := by
  cases d <;> simp only [dKey] at h <;> cases h
  · exact dn_int hv
  · exact dn_str hv
theorem dKeys_ok {K : PySem.W.Frag} {G : Rg} {H : Hp} : ∀ {ds : List PyData} {ks : List Key} {vs : List V}, dKeys ds = some ks → DnA K G H vs ds → vs = ks.map kV
  | [], _, _, h, .nil => by cases h; rfl
  | d :: ds, ks, _, h, .cons q r => by
    unfold dKeys at h
    cases e : dKey d with
    | none => rw [e] at h; cases h
    | some k =>
      rw [e] at h
      have h : (dKeys ds).map (k :: ·) = some ks := h
      cases e2 : dKeys ds with
      | none => rw [e2] at h; cases h
      | some js =>
        rw [e2] at h
        cases h
        rw [dKey_ok e q, dKeys_ok e2 r]
        rfl
theorem dKeys_eq : ∀ {ds : List PyData} {ks : List Key}, dKeys ds = some ks → ds = ks.map keyD
  | [], _, h => by cases h; rfl
  | d :: ds, ks, h => by
    unfold dKeys at h
    cases e : dKey d with
    | none => rw [e] at h; cases h
    | some k =>
      rw [e] at h
      have h : (dKeys ds).map (k :: ·) = some ks := h
      cases e2 : dKeys ds with
      | none => rw [e2] at h; cases h
      | some js => rw [e2] at h; cases h; rw [dKey_eq e, dKeys_eq e2]; rfl
end
end PD
set_option Elab.async false
set_option linter.all false
set_option maxRecDepth 100000
set_option maxHeartbeats 4000000
set_option autoImplicit false
namespace PD
open PySem L2
theorem DnA.fresh {K : PySem.W.Frag} {G : Gh} {H : Hp} {fr : Bool} {vs : List V} {ds : List PyData} (h : DnA K (rg G fr) H vs ds) (hf : (fr || flat.flatA ds) = true) : DnA K (rg G true) H vs ds := by
  cases fr with
  | true => exact h
  | false => exact h.free (by simpa using hf)
section
variable {X : Cx} {W : WX} {sc : Scope} {N : List Str} {a b c e e2 o : Expr} {es : List Expr} {apos cpos pos p p2 : Pos} {k : DA} {f g : DF} {s : Stmt}
def rCatL (K : PySem.W.Frag) : R2 := fun x y H Q => ∃ l b xs zs, x = .ref l ∧ y = .ref b ∧ SqL K H l xs ∧ SqL K H b zs ∧ xs.length + zs.length ≤ sizeLine ∧ ∀ p, H p = none → Q (.ref p) (upd H p (.lst (xs ++ zs)))
theorem op_catL : OpR X (binaryOp .Add) (rCatL X.K) := by
  intro pins s σ H x y v u Q I rx ry h
  obtain ⟨l, b, xs, zs, rfl, rfl, hH, hB, hz, q⟩ := h
  cases rx
  cases ry
  obtain ⟨its, r, ⟨⟨cls, dd, data, sl⟩, n, e, hc, hd, hs⟩, z⟩ := I.list hH
  obtain ⟨its2, r2, ⟨⟨cls2, dd2, data2, sl2⟩, n2, e2, hc2, hd2, hs2⟩, z2⟩ := I.list hB
  have hc : cls = .type "list" := hc
  have hs : data = .seq its.toArray n := hs
  have hc2 : cls2 = .type "list" := hc2
  have hs2 : data2 = .seq its2.toArray n2 := hs2
  subst hc hs hc2 hs2
  have hl := r.length
  have hl2 := r2.length
  have ea : its.toArray ++ its2.toArray = (its ++ its2).toArray := by simp
  refine PySem.concat_meets ⟨_, e, rfl⟩ ⟨_, e2, rfl⟩ PySem.noFill_list_add PySem.seq_list_add PySem.F.slot_list_add PySem.F.entry_list_add (PySem.F.args_list_add_2 _ _) (PyProof.Rows.list_addW l b its.toArray its2.toArray n n2 dd dd2 sl sl2 (by rw [List.size_toArray, List.size_toArray]; omega)) ⟨e, e2, ?_⟩
  rw [ea]
  exact ⟨.ref _, _, I.lnew (t' := s.toks) (r.append r2) (by rw [List.length_append]; omega), rfl, q _ I.fresh⟩
def lsA (Γ : List Sl) : AV → Option (List PyData)
  | .d fr (.list ds) => if fr || flat.flatA ds then some ds else none
  | .s j => match rdD Γ (.s j) with
    | some (.list ds) => some ds
    | _ => none
  | _ => none
theorem lsA_ok {Γ : List Sl} {x : AV} {ds : List PyData} {G : Gh} {H : Hp} {σ : St} {v : V} (h : lsA Γ x = some ds) (S : Sta X.K G H σ Γ) (hv : AVok X.K G H σ v x) : ∃ l xs, v = .ref l ∧ SqL X.K H l xs ∧ DnA X.K (rg G true) H xs ds := by
  unfold lsA at h
  split at h
  · rename_i fr ds'
    by_cases hc : (fr || flat.flatA ds') = true
    · rw [if_pos hc] at h
      cases h
      obtain ⟨l, xs, rfl, g1, g2⟩ := dn_list hv
      exact ⟨l, xs, rfl, (g1.mono (S.w.rgl _)).sq, g2.fresh hc⟩
    · rw [if_neg hc] at h; cases h
  · rename_i j
    split at h
    · cases h
      obtain ⟨l, xs, rfl, g1, g2⟩ := S.slotL ‹_› hv
      exact ⟨l, xs, rfl, SqL.of g1, g2⟩
    · cases h
  · cases h
theorem AVok.ext' {G G' : Gh} {H H' : Hp} {σ : St} {v : V} {x : AV} (h : AVok X.K G H σ v x) (e : Ext G H G' H') : AVok X.K G' H' σ v x := h.ext e
def dCat (f g : DF) : DN := fun Γ => (f Γ).bind fun x => (g x.2).bind fun y => (R.ofO (lsA y.2 x.1)).bind fun ds => (R.ofO (lsA y.2 y.1)).bind fun es => gq (szB (ds ++ es)) (ds ++ es, y.2)
theorem cn_cat (ha : CE X W a f) (hb : CE X W b g) : CN X W (.BinOp a .Add b pos) (dCat f g) := fun Γ =>
  pe_imp (pe_op op_catL (ha Γ) (pe_any fun x : AV × List Sl => hb x.2)) fun σ H Q ⟨G, S, q⟩ => ⟨G, S, (Pst.bind q).imp fun x G1 H1 e1 q1 v S1 hv => ⟨x, G1, S1, (Pst.bind q1).imp fun y G2 H2 e2 q2 u S2 hu => by
    obtain ⟨ds, h1, q2⟩ := Pst.ofO q2
    obtain ⟨es, h2, q2⟩ := Pst.ofO q2
    obtain ⟨hc, q3⟩ := Pst.gq S2.w q2
    obtain ⟨l, xs, rfl, g1, g2⟩ := lsA_ok h1 S2 (hv.ext e2)
    obtain ⟨l2, ys, rfl, g3, g4⟩ := lsA_ok h2 S2 hu
    refine ⟨l, l2, xs, ys, rfl, rfl, g1, g3, ?_, fun p hp => q3 p _ S2 hp (g2.append g4)⟩
    have := of_decide_eq_true hc
    rw [g2.length, g4.length]
    simpa using this⟩⟩
def cutD {α : Type} (ds : List α) (lo hi : Option Int) : List α := (ds.drop (HT.sIx ds.length 0 lo)).take (HT.sIx ds.length ds.length hi - HT.sIx ds.length 0 lo)
theorem DnA.cut {K : PySem.W.Frag} {G : Rg} {H : Hp} {vs : List V} {ds : List PyData} (h : DnA K G H vs ds) (lo hi : Option Int) : DnA K G H (cutV vs lo hi) (cutD ds lo hi) := by
  unfold cutV cutD
  rw [h.length]
  exact (h.drop _).take _
abbrev DO := List Sl → R (Option Int × List Sl)
def rdO (X : Cx) (W : WX) (Γ : List Sl) (m : R (Option Int × List Sl)) : TO := fun σ H Q => ∃ G, Sta X.K G H σ Γ ∧ Pst X W G H σ m fun r G' H' => Sta X.K G' H' σ r.2 → Q r.1 H'
def CO (X : Cx) (W : WX) (e : Option Expr) (f : DO) : Prop := ∀ Γ, PO X e (rdO X W Γ (f Γ))
theorem po_imp {e : Option Expr} {t t' : TO} (h : PO X e t) (k : ∀ σ H Q, t' σ H Q → t σ H Q) : PO X e t' := ⟨fun pins s σ H Q I q => h.run pins s σ H Q I (k σ H Q q)⟩
theorem po_any {e : Option Expr} {α : Type} {t : α → TO} (h : ∀ x, PO X e (t x)) : PO X e (fun σ H Q => ∃ x, t x σ H Q) := ⟨fun pins s σ H Q I ⟨x, q⟩ => (h x).run pins s σ H Q I q⟩
def oNone : DO := fun Γ => .val (none, Γ)
theorem co_none : CO X W none oNone := fun Γ => po_imp po_none fun σ H Q ⟨G, S, q⟩ => q G H (Ext.rf S.w) S
def oSome (f : DF) : DO := fun Γ => (f Γ).bind fun z => (R.ofO (intA z.1)).bind fun i => .val (some i, z.2)
theorem co_some (ha : CE X W e f) : CO X W (some e) (oSome f) := fun Γ => po_imp (po_some (ha Γ)) fun σ H Q ⟨G, S, q⟩ => ⟨G, S, (Pst.bind q).imp fun x G1 H1 e1 q1 v S1 hv => by
  obtain ⟨i, hi, q1⟩ := Pst.ofO q1
  exact ⟨i, intA_ok hi hv, q1 G1 H1 (Ext.rf S1.w) S1⟩⟩
theorem cut_whole {α : Type} (xs : List α) {lo hi : Option Int} (h : HT.sIx xs.length 0 lo = 0 ∧ HT.sIx xs.length xs.length hi = xs.length) : cutD xs lo hi = xs := by
  unfold cutD
  rw [h.1, h.2, List.drop_zero, Nat.sub_zero, List.take_length]
end
end PD
set_option Elab.async false
set_option linter.all false
set_option maxRecDepth 100000
set_option maxHeartbeats 4000000
set_option autoImplicit false
namespace PD
open PySem L2
mutual
def eqK : PyData → PyData → Bool
  | .int i, .int j => decide (i = j)
  | .str x, .str y => decide (x = y)
  | .tuple xs, .tuple ys => eqKs xs ys
  | _, _ => false
def eqKs : List PyData → List PyData → Bool
  | [], [] => true
  | x :: xs, y :: ys => eqK x y && eqKs xs ys
  | _, _ => false
end
theorem eqK_keyD (k k' : Key) : eqK (keyD k) (keyD k') = decide (k = k') := by
  cases k <;> cases k' <;> simp [keyD, eqK]
theorem eqKs_keyD : ∀ (k k' : List Key), eqKs (k.map keyD) (k'.map keyD) = decide (k = k')
  | [], [] => rfl
  | [], _ :: _ => by simp [eqKs]
  | _ :: _, [] => by simp [eqKs]
  | x :: xs, y :: ys => by
    simp only [List.map_cons, eqKs, eqK_keyD, eqKs_keyD xs ys, List.cons.injEq]
    by_cases h : x = y <;> by_cases h2 : xs = ys <;> simp [h, h2]
def kOk : Dk → PyData → Bool
  | .k, d => (dKey d).isSome
  | .t, .tuple ks => (dKeys ks).isSome
  | .t, _ => false
  | .n, _ => false
def getD (kvs : List (PyData × PyData)) (k : PyData) : Option PyData := (kvs.find? fun z => eqK z.1 k).map (·.2)
def putD (kvs : List (PyData × PyData)) (k v : PyData) : List (PyData × PyData) := if kvs.any (fun z => eqK z.1 k) then kvs.map (fun z => if eqK z.1 k then (z.1, v) else z) else kvs ++ [(k, v)]
def kindD : List (PyData × PyData) → Option Dk
  | (.int _, _) :: _ => some .k
  | (.str _, _) :: _ => some .k
  | (.tuple _, _) :: _ => some .t
  | _ => none
theorem kindD_ok {t : Dk} {o : HO} {vs : List V} {kvs : List (PyData × PyData)} {t' : Dk} (h : kindD kvs = some t') {a : Addr} (ho : DcO t a o (kvs.map (·.1)) vs) : t = t' := by
  cases t with
  | k =>
    obtain ⟨ks, rfl, h1, _⟩ := ho
    cases kvs with
    | nil => cases h
    | cons z r =>
      cases ks with
      | nil => cases h1
      | cons y s =>
        obtain ⟨d, v⟩ := z
        have h1 := (List.cons.inj h1).1
        have h1 : d = keyD y.1 := h1
        subst h1
        cases hy : y.1 <;> rw [hy] at h <;> cases h <;> rfl
  | t =>
    obtain ⟨ks, rfl, h1, _⟩ := ho
    cases kvs with
    | nil => cases h
    | cons z r =>
      cases ks with
      | nil => cases h1
      | cons y s =>
        obtain ⟨d, v⟩ := z
        have h1 := (List.cons.inj h1).1
        have h1 : d = .tuple (y.1.map keyD) := h1
        subst h1
        cases h
        rfl
  | n =>
    obtain ⟨rs, kds, _, _, _, h1, _⟩ := ho
    cases kvs with
    | nil => cases h
    | cons z r =>
      obtain ⟨d, v⟩ := z
      have h1 : d = PyData.none := (List.cons.inj h1).1
      subst h1
      cases h
section
variable {κ : Type} [DecidableEq κ] {K : PySem.W.Frag} {G : Rg} {H : Hp}
theorem get_rel {f : κ → PyData} (hf : ∀ a b, eqK (f a) (f b) = decide (a = b)) (k : κ) : ∀ {ks : List (κ × V)} {kvs : List (PyData × PyData)}, kvs.map (·.1) = ks.map (fun z => f z.1) → DnA K G H (ks.map (·.2)) (kvs.map (·.2)) →
    (valV ks k = none ∧ getD kvs (f k) = none) ∨ ∃ v d, valV ks k = some v ∧ getD kvs (f k) = some d ∧ Dn K G H v d
  | [], [], _, _ => .inl ⟨rfl, rfl⟩
  | [], _ :: _, h, _ => by cases h
  | _ :: _, [], h, _ => by cases h
  | (y, u) :: ks, (x, w) :: kvs, h, hd => by
    have h1 : x = f y := (List.cons.inj h).1
    have h2 := (List.cons.inj h).2
    obtain ⟨d1, d2⟩ : Dn K G H u w ∧ DnA K G H (ks.map (·.2)) (kvs.map (·.2)) := by cases hd; exact ⟨‹_›, ‹_›⟩
    subst h1
    by_cases e : y = k
    · subst e
      exact .inr ⟨u, w, by simp [valV], by simp [getD, hf], d1⟩
    · have e1 : valV ((y, u) :: ks) k = valV ks k := by simp [valV, List.find?_cons, e]
      have e2 : getD ((f y, w) :: kvs) (f k) = getD kvs (f k) := by simp [getD, List.find?_cons, hf, e]
      rw [e1, e2]
      exact get_rel hf k h2 d2
theorem any_rel {f : κ → PyData} (hf : ∀ a b, eqK (f a) (f b) = decide (a = b)) (k : κ) : ∀ {ks : List (κ × V)} {kvs : List (PyData × PyData)}, kvs.map (·.1) = ks.map (fun z => f z.1) → (kvs.any fun z => eqK z.1 (f k)) = ks.any fun z => decide (z.1 = k)
  | [], [], _ => rfl
  | [], _ :: _, h => by cases h
  | _ :: _, [], h => by cases h
  | (y, u) :: ks, (x, w) :: kvs, h => by
    have h1 : x = f y := (List.cons.inj h).1
    subst h1
    simp only [List.any_cons, hf, any_rel hf k (List.cons.inj h).2]
theorem rep_rel {f : κ → PyData} (hf : ∀ a b, eqK (f a) (f b) = decide (a = b)) (k : κ) {v : V} {d : PyData} (hv : Dn K G H v d) : ∀ {ks : List (κ × V)} {kvs : List (PyData × PyData)}, kvs.map (·.1) = ks.map (fun z => f z.1) → DnA K G H (ks.map (·.2)) (kvs.map (·.2)) →
    (kvs.map (fun z => if eqK z.1 (f k) then (z.1, d) else z)).map (·.1) = (ks.map (fun z => if z.1 = k then (z.1, v) else z)).map (fun z => f z.1) ∧ DnA K G H ((ks.map (fun z => if z.1 = k then (z.1, v) else z)).map (·.2)) ((kvs.map (fun z => if eqK z.1 (f k) then (z.1, d) else z)).map (·.2))
  | [], [], _, _ => ⟨rfl, .nil⟩
  | [], _ :: _, h, _ => by cases h
  | _ :: _, [], h, _ => by cases h
  | (y, u) :: ks, (x, w) :: kvs, h, hd => by
    have h1 : x = f y := (List.cons.inj h).1
    obtain ⟨d1, d2⟩ : Dn K G H u w ∧ DnA K G H (ks.map (·.2)) (kvs.map (·.2)) := by cases hd; exact ⟨‹_›, ‹_›⟩
    subst h1
    obtain ⟨i1, i2⟩ := rep_rel hf k hv (List.cons.inj h).2 d2
    by_cases e : y = k
    · subst e
      simp only [List.map_cons, hf, decide_true, if_true]
      exact ⟨by rw [i1], .cons hv i2⟩
    · simp only [List.map_cons, hf, e, decide_false, if_false, Bool.false_eq_true]
      exact ⟨by rw [i1], .cons d1 i2⟩
theorem put_rel {f : κ → PyData} (hf : ∀ a b, eqK (f a) (f b) = decide (a = b)) (k : κ) {v : V} {d : PyData} (hv : Dn K G H v d) {ks : List (κ × V)} {kvs : List (PyData × PyData)} (h : kvs.map (·.1) = ks.map (fun z => f z.1)) (hd : DnA K G H (ks.map (·.2)) (kvs.map (·.2))) :
    (putD kvs (f k) d).map (·.1) = (putK ks k v).map (fun z => f z.1) ∧ DnA K G H ((putK ks k v).map (·.2)) ((putD kvs (f k) d).map (·.2)) := by
  unfold putD putK
  rw [any_rel hf k h]
  by_cases e : (ks.any fun z => decide (z.1 = k)) = true
  · rw [if_pos e, if_pos e]
    exact rep_rel hf k hv h hd
  · rw [if_neg e, if_neg e]
    simp only [List.map_append, h, List.map_cons, List.map_nil, true_and]
    exact hd.append (.cons hv .nil)
end
theorem hfK : ∀ a b : Key, eqK (keyD a) (keyD b) = decide (a = b) := eqK_keyD
theorem hfT : ∀ a b : List Key, eqK (.tuple (a.map keyD)) (.tuple (b.map keyD)) = decide (a = b) := eqKs_keyD
theorem dget_rel {K : PySem.W.Frag} {G : Rg} {H : Hp} {a : Addr} {o : HO} {t : Dk} {vs : List V} {kvs : List (PyData × PyData)} {y : V} {k : PyData} {G' : Rg} (hr : Rd H a o) (ho : DcO t a o (kvs.map (·.1)) vs) (hd : DnA K G H vs (kvs.map (·.2))) (hk : kOk t k = true) (hy : Dn K G' H y k) :
    (DGet H a y none ∧ getD kvs k = none) ∨ ∃ v d, DGet H a y (some v) ∧ getD kvs k = some d ∧ Dn K G H v d := by
  cases t with
  | k =>
    obtain ⟨ks, rfl, h1, rfl⟩ := ho
    cases e : dKey k with
    | none => simp [kOk, e] at hk
    | some kk =>
      have hv := dKey_ok e hy
      have he := dKey_eq e
      subst hv he
      rcases get_rel (f := keyD) hfK kk h1 hd with ⟨g1, g2⟩ | ⟨v, d, g1, g2, g3⟩
      · exact .inl ⟨.inl ⟨ks, kk, hr, rfl, g1.symm⟩, g2⟩
      · exact .inr ⟨v, d, .inl ⟨ks, kk, hr, rfl, g1.symm⟩, g2, g3⟩
  | t =>
    obtain ⟨ks, rfl, h1, rfl⟩ := ho
    cases k <;> try (simp [kOk] at hk; done)
    rename_i xs
    cases e : dKeys xs with
    | none => simp [kOk, e] at hk
    | some kk =>
      obtain ⟨b, ws, rfl, hb, hw⟩ := dn_tupleH hy
      have hv := dKeys_ok e hw
      have he := dKeys_eq e
      subst hv he
      rcases get_rel (f := fun z : List Key => .tuple (z.map keyD)) hfT kk h1 hd with ⟨g1, g2⟩ | ⟨v, d, g1, g2, g3⟩
      · exact .inl ⟨.inr ⟨ks, kk, b, hr, rfl, hb, g1.symm⟩, g2⟩
      · exact .inr ⟨v, d, .inr ⟨ks, kk, b, hr, rfl, hb, g1.symm⟩, g2, g3⟩
  | n => cases hk
theorem dput_rel {K : PySem.W.Frag} {G : Rg} {H : Hp} {a : Addr} {o : HO} {t : Dk} {vs : List V} {kvs : List (PyData × PyData)} {y v : V} {k d : PyData} {G' : Rg} (hr : H a = some o) (ho : DcO t a o (kvs.map (·.1)) vs) (hd : DnA K G H vs (kvs.map (·.2))) (hk : kOk t k = true) (hy : Dn K G' H y k) (hv : Dn K G H v d) (hl : kvs.length < sizeLine) :
    ∃ o' vs', DPut H a y v (upd H a o') ∧ DcO t a o' ((putD kvs k d).map (·.1)) vs' ∧ DnA K G H vs' ((putD kvs k d).map (·.2)) := by
  cases t with
  | k =>
    obtain ⟨ks, rfl, h1, rfl⟩ := ho
    cases e : dKey k with
    | none => simp [kOk, e] at hk
    | some kk =>
      have hv' := dKey_ok e hy
      have he := dKey_eq e
      subst hv' he
      obtain ⟨p1, p2⟩ := put_rel (f := keyD) hfK kk hv h1 hd
      have hlen : ks.length = kvs.length := by have := congrArg List.length h1; simpa using this.symm
      exact ⟨_, _, .inl ⟨ks, kk, hr, rfl, by rw [hlen]; exact hl, rfl⟩, ⟨_, rfl, p1, rfl⟩, p2⟩
  | t =>
    obtain ⟨ks, rfl, h1, rfl⟩ := ho
    cases k <;> try (simp [kOk] at hk; done)
    rename_i xs
    cases e : dKeys xs with
    | none => simp [kOk, e] at hk
    | some kk =>
      obtain ⟨b, ws, rfl, hb, hw⟩ := dn_tupleH hy
      have hv' := dKeys_ok e hw
      have he := dKeys_eq e
      subst hv' he
      obtain ⟨p1, p2⟩ := put_rel (f := fun z : List Key => .tuple (z.map keyD)) hfT kk hv h1 hd
      have hlen : ks.length = kvs.length := by have := congrArg List.length h1; simpa using this.symm
      exact ⟨_, _, .inr ⟨ks, kk, b, hr, rfl, hb, by rw [hlen]; exact hl, rfl⟩, ⟨_, rfl, p1, rfl⟩, p2⟩
  | n => cases hk
end PD
set_option Elab.async false
set_option linter.all false
set_option maxRecDepth 100000
set_option maxHeartbeats 4000000
set_option autoImplicit false
namespace PD
open PySem L2
theorem dn_dict {K : PySem.W.Frag} {G : Rg} {H : Hp} {v : V} {kvs : List (PyData × PyData)} (h : Dn K G H v (.dict kvs)) {t0 : Dk} (hk : kindD kvs = some t0) : ∃ a o t vs, v = .ref a ∧ (∃ ob, G a (.frz ob o)) ∧ DcO t a o (kvs.map (·.1)) vs ∧ DnA K G H vs (kvs.map (·.2)) := by
  cases h with
  | dct h1 h2 h3 => exact ⟨_, _, _, _, rfl, h1, h2, h3⟩
  | exc _ _ _ _ => cases hk
  | exc0 _ => cases hk
  | ins _ _ _ _ => cases hk
  | dcu _ _ _ => cases hk
section
variable {X : Cx} {W : WX} {sc : Scope} {N : List Str} {a b c e e2 o : Expr} {es : List Expr} {apos cpos pos p p2 : Pos} {k : DA} {f g : DF} {s : Stmt}
def dicA (Γ : List Sl) : AV → Option (Bool × Dk × List (PyData × PyData))
  | .d fr (.dict kvs) => (kindD kvs).map fun t => (fr, t, kvs)
  | .s j => match Γ[j]? with
    | some (.own (.dic t kvs)) => some (true, t, kvs)
    | some (.io (.dic t kvs)) => some (true, t, kvs)
    | _ => none
  | _ => none
theorem dicA_ok {Γ : List Sl} {x : AV} {z : Bool × Dk × List (PyData × PyData)} {G : Gh} {H : Hp} {σ : St} {v : V} (h : dicA Γ x = some z) (S : Sta X.K G H σ Γ) (hv : AVok X.K G H σ v x) : ∃ l o vs, v = .ref l ∧ Rd H l o ∧ DcO z.2.1 l o (z.2.2.map (·.1)) vs ∧ DnA X.K (rg G z.1) H vs (z.2.2.map (·.2)) := by
  unfold dicA at h
  split at h
  · rename_i fr kvs
    cases hk : kindD kvs with
    | none => rw [hk] at h; cases h
    | some t =>
      rw [hk] at h
      cases h
      obtain ⟨l, o, t', vs, rfl, h1, h2, h3⟩ := dn_dict hv hk
      have := kindD_ok hk h2
      subst this
      exact ⟨l, o, vs, rfl, .inr (h1.imp fun _ z => S.w.rgl fr _ _ z), h2, h3⟩
  · rename_i j
    obtain ⟨A, T⟩ := S
    have hv : σ[j]? = some (some v) := hv
    split at h
    · cases h
      obtain ⟨u, h1, _, p, o, vs, rfl, _, h3, h4, h5⟩ := T.sl j _ ‹_›
      rw [h1] at hv
      cases hv
      exact ⟨p, o, vs, rfl, .inl h3, h4, h5⟩
    · cases h
      obtain ⟨u, h1, _, p, o, vs, rfl, _, h3, h4, h5⟩ := T.sl j _ ‹_›
      rw [h1] at hv
      cases hv
      exact ⟨p, o, vs, rfl, .inl h3, h4, h5⟩
    · cases h
  · cases h
theorem rdD_av {Γ : List Sl} {x : AV} {d : PyData} {G : Gh} {H : Hp} {σ : St} {v : V} (h : rdD Γ x = some d) (S : Sta X.K G H σ Γ) (hv : AVok X.K G H σ v x) : Dn X.K (RgH H) H v d := (rdD_ok h).ok S hv
def rIxD : R2 := fun x y H Q => ∃ a v, x = .ref a ∧ DGet H a y (some v) ∧ Q v H
theorem ix_dict (hu : X.A.units + 1 < cLine) : IxR X rIxD := by
  intro value slice pins s σ H x y v u Q I rx ry h hs
  obtain ⟨a, w, rfl, g, q⟩ := h
  cases rx
  exact PyProof.Rows.tail_any (dict_typeIs I g) PySem.F.slot_dict_getitem.lookup (d_getItem hu I g ry fun w' s' I' rw' => ⟨w, H, I', rw', q⟩) hs
def ixB (Γ : List Sl) (x y : AV) : R AV := match dicA Γ x with
  | some z => match y with
    | .d _ kk => (R.req (kOk z.2.1 kk)).bind fun _ => (R.ofO (getD z.2.2 kk)).bind fun d => .val (.d z.1 d)
    | _ => .bad
  | none => ixA Γ x y
def dIxB (f g : DF) : DF := fun Γ => (f Γ).bind fun x => (g x.2).bind fun y => (ixB y.2 x.1 y.1).bind fun z => .val (z, y.2)
theorem ce_ixB (C : Cf0 X W sc N) (ha : CE X W a f) (hb : CE X W b g) (hs : PlainIx b := by exact fun _ _ => rfl) : CE X W (.Subscript a b pos) (dIxB f g) := fun Γ =>
  pe_imp (pe_ix ((ix_dict (u1 C)).or ix_seq) (ha Γ) (pe_any fun x : AV × List Sl => hb x.2) hs) fun σ H Q h => bin_rd (X := X) (W := W) (ava := Prod.fst) (Γa := Prod.snd) (avb := fun _ (y : AV × List Sl) => y.1) (Γb := fun _ (y : AV × List Sl) => y.2) (avk := Prod.fst) (Γk := Prod.snd) (k := fun (x : AV × List Sl) (y : AV × List Sl) => (ixB y.2 x.1 y.1).bind fun z => .val (z, y.2)) (fun x y G H σ u v Q S hu hv p => by
    obtain ⟨x, Γ1⟩ := x
    obtain ⟨y, Γ2⟩ := y
    simp only at hu hv S p
    unfold ixB at p
    split at p
    · rename_i z hz
      split at p
      · rename_i fr kk
        have hk : kOk z.2.1 kk = true := by
          cases hc : kOk z.2.1 kk with
          | true => rfl
          | false => rw [hc] at p; exact p.elim
        rw [hk] at p
        have p : Pst X W G H σ (((R.ofO (getD z.2.2 kk)).bind fun d => R.val (AV.d z.1 d)).bind fun z => .val (z, Γ2)) (fun z G' H' => ∀ (w : V), Sta X.K G' H' σ z.snd → AVok X.K G' H' σ w z.fst → Q w H') := p
        obtain ⟨d, hd⟩ : ∃ d, getD z.2.2 kk = some d := by
          cases hc : getD z.2.2 kk with
          | none => rw [hc] at p; exact p.elim
          | some d => exact ⟨d, rfl⟩
        rw [hd] at p
        obtain ⟨l, o, vs, rfl, h1, h2, h3⟩ := dicA_ok hz S hu
        rcases dget_rel h1 h2 h3 hk hv with ⟨_, g2⟩ | ⟨w, d', g1, g2, g3⟩
        · rw [hd] at g2; cases g2
        · rw [hd] at g2; cases g2
          exact .inl ⟨l, w, rfl, g1, p G H (Ext.rf S.w) w S g3⟩
      · exact p.elim
    · rename_i hnone
      clear hnone
      refine .inr ?_
      unfold ixA at p
      split at p
      · rename_i fr ds _ i
        cases hz : atI ds i with
        | none => rw [hz] at p; exact p.elim
        | some d =>
          rw [hz] at p
          obtain ⟨q, xs, rfl, g1, g2⟩ := dn_list hu
          obtain ⟨w, g3, g4⟩ := atI_dn g2 hz
          exact .inl ⟨q, xs, i, w, rfl, dn_int hv, (g1.mono (S.w.rgl fr)).sq, g3, p G H (Ext.rf S.w) w S g4⟩
      · rename_i fr ds _ i
        cases hz : atI ds i with
        | none => rw [hz] at p; exact p.elim
        | some d =>
          rw [hz] at p
          obtain ⟨q, xs, rfl, g1, g2⟩ := dn_tuple hu
          obtain ⟨w, g3, g4⟩ := atI_dn g2 hz
          exact .inr (.inl ⟨q, xs, i, w, rfl, dn_int hv, g1, g3, p G H (Ext.rf S.w) w S g4⟩)
      · rename_i j _ i
        split at p
        · rename_i ds hd
          cases hz : atI ds i with
          | none => rw [hz] at p; exact p.elim
          | some d =>
            rw [hz] at p
            obtain ⟨q, xs, rfl, g1, g2⟩ := S.slotL hd hu
            obtain ⟨w, g3, g4⟩ := atI_dn g2 hz
            exact .inl ⟨q, xs, i, w, rfl, dn_int hv, SqL.of g1, g3, p G H (Ext.rf S.w) w S g4⟩
        · exact p.elim
      · exact p.elim) h
def rInD (neg : Bool) : R2 := fun y x H Q => ∃ a o, x = .ref a ∧ DGet H a y o ∧ Q (.bl (o.isSome != neg)) H
theorem op_inDict (hu : X.A.units + 1 < cLine) : OpR X (compareOp .In) (rInD false) := by
  intro pins s σ H x y v u Q I rx ry h
  obtain ⟨a, o, rfl, g, q⟩ := h
  cases ry
  exact d_in hu I g rx fun s' I' => ⟨.bl o.isSome, H, I', rfl, by rw [Bool.bne_false] at q; exact q⟩
theorem op_notInDict (hu : X.A.units + 1 < cLine) : OpR X (compareOp .NotIn) (rInD true) := by
  intro pins s σ H x y v u Q I rx ry h
  obtain ⟨a, o, rfl, g, q⟩ := h
  cases ry
  exact d_notIn hu I g rx fun s' I' => ⟨.bl (!o.isSome), H, I', rfl, by rw [Bool.bne_true] at q; exact q⟩
def kInB (Γ : List Sl) (x y : AV) : R Bool := match dicA Γ y with
  | some z => match rdD Γ x with
    | some kk => gq (kOk z.2.1 kk) (getD z.2.2 kk).isSome
    | none => .bad
  | none => kIn Γ x y
def kNinB (Γ : List Sl) (x y : AV) : R Bool := (kInB Γ x y).bind fun z => .val (!z)
theorem kInB_cases {G : Gh} {H : Hp} {σ : St} {Γ : List Sl} {x y : AV} {u v : V} (S : Sta X.K G H σ Γ) (hu : AVok X.K G H σ u x) (hv : AVok X.K G H σ v y) : kInB Γ x y = .bad ∨ ∃ z, kInB Γ x y = .val z ∧
    ((∃ l o, v = .ref l ∧ DGet H l u o ∧ z = o.isSome) ∨ (∃ d ds, Dp X.K H u d ∧ Dp X.K H v (.list ds) ∧ SeqAt.shaped d = true ∧ SeqAt.shaped (.list ds) = true ∧ z = ds.any fun z => PyData.eqv z d) ∨
     (∃ p xs, v = .ref p ∧ SqT X.K H p xs ∧ flatV u = true ∧ xs.all flatV = true ∧ z = inV u xs)) := by
  unfold kInB
  cases hz : dicA Γ y with
  | none =>
    rcases kIn_cases S hu hv with e | ⟨z, e, r⟩
    · exact .inl e
    · exact .inr ⟨z, e, .inr r⟩
  | some z =>
    cases hd : rdD Γ x with
    | none => exact .inl rfl
    | some kk =>
      cases hk : kOk z.2.1 kk with
      | false => left; simp only [hk]; rfl
      | true =>
        obtain ⟨l, o, vs, rfl, h1, h2, h3⟩ := dicA_ok hz S hv
        refine .inr ⟨(getD z.2.2 kk).isSome, by simp only [hk]; rfl, .inl ⟨l, ?_⟩⟩
        rcases dget_rel h1 h2 h3 hk (rdD_av hd S hu) with ⟨g1, g2⟩ | ⟨w, d', g1, g2, g3⟩
        · exact ⟨none, rfl, g1, by rw [g2]; rfl⟩
        · exact ⟨some w, rfl, g1, by rw [g2]; rfl⟩
theorem ce_inB (C : Cf0 X W sc N) (ha : CE X W a f) (hb : CE X W b g) (hm : behindInMarks .In b = false := by rfl) : CE X W (.Compare a [.In] [b] pos) (dCmp kInB f g) :=
  ce_cmp2 (fun x y Γ2 => boolR (kInB Γ2 x y) Γ2) (opR_or (op_inDict (u1 C)) (opR_or (op_inD (u65 C)) op_in_seq)) hm ha hb fun x y Γ2 G H σ u v Q S hu hv p => by
    rcases kInB_cases S hu hv with e | ⟨z, e, ⟨l, o, rfl, h1, rfl⟩ | ⟨d, ds, h1, h2, h3, h4, rfl⟩ | ⟨q, xs, rfl, h1, h2, h3, rfl⟩⟩
    · rw [e] at p; exact p.elim
    · rw [e] at p; exact .inl ⟨l, o, rfl, h1, by rw [Bool.bne_false]; exact Pk.v p S (.bl _)⟩
    · rw [e] at p; exact .inr (.inl ⟨d, ds, h1, h2, h3, h4, Pk.v p S (.bl _)⟩)
    · rw [e] at p; exact .inr (.inr ⟨q, xs, rfl, .inr h1, h2, h3, Pk.v p S (.bl _)⟩)
theorem ce_notinB (C : Cf0 X W sc N) (ha : CE X W a f) (hb : CE X W b g) (hm : behindInMarks .NotIn b = false := by rfl) : CE X W (.Compare a [.NotIn] [b] pos) (dCmp kNinB f g) :=
  ce_cmp2 (fun x y Γ2 => boolR (kNinB Γ2 x y) Γ2) (opR_or (op_notInDict (u1 C)) (opR_or (op_notInD (u65 C)) op_notIn_seq)) hm ha hb fun x y Γ2 G H σ u v Q S hu hv p => by
    unfold kNinB at p
    rcases kInB_cases S hu hv with e | ⟨z, e, ⟨l, o, rfl, h1, rfl⟩ | ⟨d, ds, h1, h2, h3, h4, rfl⟩ | ⟨q, xs, rfl, h1, h2, h3, rfl⟩⟩
    · rw [e] at p; exact p.elim
    · rw [e] at p; exact .inl ⟨l, o, rfl, h1, by rw [Bool.bne_true]; exact Pk.v p S (.bl _)⟩
    · rw [e] at p; exact .inr (.inl ⟨d, ds, h1, h2, h3, h4, Pk.v p S (.bl _)⟩)
    · rw [e] at p; exact .inr (.inr ⟨q, xs, rfl, .inr h1, h2, h3, Pk.v p S (.bl _)⟩)
def dic0 : Dk → List (PyData × PyData)
  | .n => [(.none, .none)]
  | _ => []
def nDic0 (t : Dk) : DC := fun Γ => .val (.dic t (dic0 t), Γ)
theorem cc_dic0 (t : Dk) : CC X W (.Dict [] [] pos) (nDic0 t) := fun Γ => by
  cases t with
  | k => exact pe_imp pe_dnewK fun σ H Q ⟨G, S, q⟩ p hp => q G H (Ext.rf S.w) _ _ S (newc_dic (o := .dK []) (vs := []) hp ⟨[], rfl, rfl, rfl⟩ .nil)
  | t => exact pe_imp pe_dnewT fun σ H Q ⟨G, S, q⟩ p hp => q G H (Ext.rf S.w) _ _ S (newc_dic (o := .dT []) (vs := []) hp ⟨[], rfl, rfl, rfl⟩ .nil)
  | n => exact pe_imp pe_dnewN fun σ H Q ⟨G, S, q⟩ p hp => q G H (Ext.rf S.w) _ _ S (newc_dic (o := NdO p []) (vs := [.non]) hp ⟨[], [], rfl, rfl, fun _ h => (nomatch h), rfl, rfl⟩ (.cons .non .nil))
def cellC (Γ : List Sl) (i : Nat) : Option (Bool × Cl) := match Γ[i]? with
  | some (.own c) => some (false, c)
  | some (.io c) => some (true, c)
  | _ => none
theorem cellC_ok {Γ : List Sl} {i : Nat} {z : Bool × Cl} (h : cellC Γ i = some z) : Γ[i]? = some (mkS z.1 z.2) := by
  unfold cellC at h
  split at h
  · cases h; exact ‹_›
  · cases h; exact ‹_›
  · cases h
def putC : Cl → PyData → PyData → Option Cl
  | .lst ds, .int k, v => (ixN ds.length k).map fun j => .lst (ds.set j v)
  | .dic t kvs, k, v => if kOk t k && decide (kvs.length < sizeLine) then some (.dic t (putD kvs k v)) else none
  | _, _, _ => none
theorem putC_cases {c c' : Cl} {k v : PyData} (h : putC c k v = some c') : (∃ ds k' j, c = .lst ds ∧ k = .int k' ∧ ixN ds.length k' = some j ∧ c' = .lst (ds.set j v)) ∨ ∃ t kvs, c = .dic t kvs ∧ kOk t k = true ∧ kvs.length < sizeLine ∧ c' = .dic t (putD kvs k v) := by
  unfold putC at h
  split at h
  · rename_i ds k'
    cases hj : ixN ds.length k' with
    | none => rw [hj] at h; cases h
    | some j => rw [hj] at h; cases h; exact .inl ⟨ds, k', j, rfl, rfl, hj, rfl⟩
  · rename_i t kvs
    split at h
    · rename_i hc
      cases h
      rw [Bool.and_eq_true] at hc
      exact .inr ⟨t, kvs, rfl, hc.1, of_decide_eq_true hc.2, rfl⟩
    · cases h
  · cases h
def bPut (i : Nat) (fe fi : DF) : DS := fun Γ => (dFrz fe Γ).bind fun z => (R.ofO (cellC z.2 i)).bind fun _ => (fi z.2).bind fun y => (R.ofO (cellC y.2 i)).bind fun c => match z.1, y.1 with
  | .d true v, .d _ kk => (R.ofO (putC c.2 kk v)).bind fun c' => .val (.nx, y.2.set i (mkS c.1 c'))
  | _, _ => .bad
theorem tup_mut {H : Hp} {p : Addr} {o o' : HO} (h : H p = some o) (ht : ∀ xs, o ≠ .tup xs) : TupLe H (upd H p o') := fun a xs e => by
  have : a ≠ p := fun q => by rw [q, h] at e; exact ht xs (Option.some.inj e)
  rw [upd_ne this]; exact e
theorem c1_put (C : Cf0 X W sc N) (i : Nat) {x : Str} {p' tpos : Pos} {fe fi : DF} (hN : N[i]? = some x) (hv : visB sc x = true) (he : CE X W e fe) (hi : CE X W b fi) (hd : (x == ("__debug__" : Str)) = false := by decide +kernel) (hcd : (x == ("__classdict__" : Str)) = false := by decide +kernel)
    (has : ∀ v, assign (.Subscript (.Name x p') b tpos) X.env v = (do
      let ov ← holding [v] (eval (.Name x p') X.env)
      let iv ← holding [v, ov] (eval b X.env)
      standAt tpos
      holding [v, ov, iv] (setItem ov iv v)
      release [v, ov, iv] []) := by intro _; rfl)
    (hs : swapsWithSole [.Subscript (.Name x p') b tpos] e pos.line X.env = pure false := by rfl) (hw : swappedStores [.Subscript (.Name x p') b tpos] e X.env = pure none := by rfl) (h1 : (assignEach [.Subscript (.Name x p') b tpos] X.env).map (·.2) = [assign (.Subscript (.Name x p') b tpos) X.env] := by rfl) :
    C1 X W (.Assign [.Subscript (.Name x p') b tpos] e pos) (bPut i fe fi) := fun Γ =>
  ps_imp (ps_asg (ce_frz he Γ) (pg_sub (pe_any fun z : {z : AV × List Sl // (cellC z.2 i).isSome} => evp_cell (W := W) (c := ((cellC z.1.2 i).get z.2).2) C (cellC_ok (Option.some_get _).symm) hN hv hd hcd) (pe_any fun z : AV × List Sl => hi z.2) (set_or set_list (set_dict (u1 C))) has) hs hw h1) fun D σ H ⟨G, S, p⟩ => ⟨G, S, (Pst.bind p).imp fun z G1 H1 e1 p1 v S1 a1 => by
    obtain ⟨c0, hc0, p1⟩ := Pst.ofO p1
    refine ⟨⟨z, by rw [hc0]; rfl⟩, G1, S1, fun G2 H2 e2 u S2 hu => ⟨z, G2, S2, (Pst.bind (Pst.ext p1 e2)).imp fun y G3 H3 e3 p3 w S3 hw3 => ?_⟩⟩
    obtain ⟨c, hc, p3⟩ := Pst.ofO p3
    have hu : σ[i]? = some (some u) := hu
    obtain ⟨u', fp, g1, g2, g3⟩ := S3.chg1 i c.1 (cellC_ok hc)
    rw [hu] at g1
    cases g1
    have a1 := a1.ext (e2.tr e3)
    split at p3
    · rename_i vd fr kk hz hy
      rw [hz] at a1
      rw [hy] at hw3
      obtain ⟨c', hc', p3⟩ := Pst.ofO p3
      have a1 : Dn X.K (rg G3 true) H3 v vd := a1
      have hw3 : Dn X.K (rg G3 fr) H3 w kk := hw3
      have fin : ∀ H4, Sta X.K G3 H4 σ (y.2.set i (mkS c.1 c')) ∧ Ext G3 H3 G3 H4 → D.nx σ H4 := fun H4 ⟨S4, e4⟩ => p3 G3 H4 e4 σ S4
      obtain ⟨io, cc⟩ := c
      have g2 : cc.ok X.K (rg G3 true) H3 u fp := g2
      rcases putC_cases hc' with ⟨ds, k', j, e1, rfl, hj, rfl⟩ | ⟨t, kvs, e1, hk, hl, rfl⟩
      · have e1 : cc = .lst ds := e1
        subst e1
        obtain ⟨q, vs, rfl, hfp, hq, hd'⟩ := g2
        refine .inl ⟨q, vs, k', j, rfl, dn_int hw3, hq, by rw [hd'.length]; exact hj, fin _ (g3 q _ _ _ hfp hq (fun _ h => by cases h) (fun _ _ h => by cases h) ⟨q, _, rfl, rfl, upd_same, ?_⟩)⟩
        exact (DnA.set a1 j hd').mono (fun _ _ z => z) (tup_mut hq (fun _ h => by cases h))
      · have e1 : cc = .dic t kvs := e1
        subst e1
        obtain ⟨q, o, vs, rfl, hfp, hq, ho, hd'⟩ := g2
        obtain ⟨o', vs', k1, k2, k3⟩ := dput_rel hq ho hd' hk hw3 a1 hl
        have nt : (∀ xs, o ≠ .tup xs) ∧ ∀ x y, o ≠ .frz x y := by
          cases t with
          | k => obtain ⟨_, rfl, _⟩ := ho; exact ⟨fun _ h => (by cases h), fun _ _ h => (by cases h)⟩
          | t => obtain ⟨_, rfl, _⟩ := ho; exact ⟨fun _ h => (by cases h), fun _ _ h => (by cases h)⟩
          | n => cases hk
        exact .inr ⟨q, _, rfl, k1, fin _ (g3 q _ _ _ hfp hq nt.1 nt.2 ⟨q, o', vs', rfl, rfl, upd_same, k2, k3.mono (fun _ _ z => z) (tup_mut hq nt.1)⟩)⟩
    · exact p3.elim⟩
end
end PD
set_option Elab.async false
set_option linter.all false
set_option maxRecDepth 100000
set_option maxHeartbeats 4000000
set_option autoImplicit false
namespace PD
open PySem L2
section
variable {X : Cx} {W : WX} {sc : Scope} {N : List Str} {a b c e e2 e3 o tg : Expr} {es : List Expr} {apos cpos pos p p1 p2 p3 : Pos} {k : DA} {f g h : DF} {s : Stmt}
def intS : Option Sl → Option Int
  | some (.dat _ (.int i)) => some i
  | _ => none
def bInc (i : Nat) (fe : DF) : DS := fun Γ => (R.ofO (intS Γ[i]?)).bind fun n => (fe Γ).bind fun z => (R.ofO (intA z.1)).bind fun m => .val (.nx, z.2.set i (.dat true (.int (n + m))))
end
end PD
set_option Elab.async false
set_option linter.all false
set_option maxRecDepth 100000
set_option maxHeartbeats 4000000
set_option autoImplicit false
namespace PD
open PySem L2
theorem fd_pcells (l l' : Addr) (t s : Int) : putK (fdK l t s) (.inr "cells" : Key) (.ref l') = fdK l' t s := rfl
theorem ixN0 {n : Nat} (h : 0 < n) : ixN n 0 = some 0 := by
  unfold ixN
  rw [if_pos (Int.le_refl 0), if_pos (by omega)]
  rfl
theorem Sta.feed {K : PySem.W.Frag} {G : Gh} {H : Hp} {σ : St} {Γ : List Sl} {f : Fd} (S : Sta K G H σ Γ) (i : Nat) (io : Bool) (hi : Γ[i]? = some (mkS io (.feed f))) :
    ∃ d l, σ[i]? = some (some (.ref d)) ∧ d ≠ l ∧ H d = some (.dK (fdK l f.2.1 f.2.2)) ∧ H l = some (.lst (f.1.map V.int)) ∧
      (∀ t s, Sta K G (upd H d (.dK (fdK l t s))) σ (Γ.set i (mkS io (.feed (f.1, t, s)))) ∧ Ext G H G (upd H d (.dK (fdK l t s)))) ∧
      (∀ ns : List Int, Sta K G (upd H l (.lst (ns.map V.int))) σ (Γ.set i (mkS io (.feed (ns, f.2)))) ∧ Ext G H G (upd H l (.lst (ns.map V.int)))) ∧
      (∀ l' (ns : List Int), H l' = none → Sta K G (upd (upd H l' (.lst (ns.map V.int))) d (.dK (fdK l' f.2.1 f.2.2))) σ (Γ.set i (mkS io (.feed (ns, f.2)))) ∧ Ext G H G (upd (upd H l' (.lst (ns.map V.int))) d (.dK (fdK l' f.2.1 f.2.2)))) := by
  obtain ⟨A, T⟩ := S
  have hlt : i < Γ.length := (List.getElem?_eq_some_iff.mp hi).1
  have key : ∃ d l, σ[i]? = some (some (.ref d)) ∧ A i = [d, l] ∧ d ≠ l ∧ H d = some (.dK (fdK l f.2.1 f.2.2)) ∧ H l = some (.lst (f.1.map V.int)) ∧
      ∀ (G' : Gh) (H' : Hp) (f' : Fd) (fp' : List Addr), G'.I = G.I → G'.H0 = G.H0 → (Cl.feed f').ok K (RgN G') H' (.ref d) fp' → (∀ p ∈ fp', p ∈ A i ∨ G.H0 p = none) → SlOk K G' H' i σ[i]? fp' (mkS io (.feed f')) := by
    have hs := T.sl i _ hi
    cases io with
    | true =>
      obtain ⟨v, h1, h2, d, l, rfl, h3, h4, h5, h6⟩ := hs
      exact ⟨d, l, h1, h3, h4, h5, h6, fun G' H' f' fp' gi _ ok _ => ⟨_, h1, by rw [gi]; exact h2, ok⟩⟩
    | false =>
      obtain ⟨v, h1, h2, d, l, rfl, h3, h4, h5, h6⟩ := hs
      refine ⟨d, l, h1, h3, h4, h5, h6, fun G' H' f' fp' _ g0 ok hp => ⟨_, h1, fun p hp' => ?_, ok⟩⟩
      rw [g0]
      rcases hp p hp' with q | q
      · exact h2 p q
      · exact q
  obtain ⟨d, l, h1, hA, hne, hd, hl, mk⟩ := key
  have ad := T.al i d (by rw [hA]; simp)
  have al := T.al i l (by rw [hA]; simp)
  refine ⟨d, l, h1, hne, hd, hl, fun t s => ?_, fun ns => ?_, fun l' ns hl' => ?_⟩
  · refine T.step (i := i) (fp' := [d, l]) (grow_mut T.w hd ad.2.1 (fun _ => by simp) (fun _ _ => by simp)) (fun p hp => by rw [hA]; simp at hp; simp [hp]) (fun _ _ => rfl) rfl (fun _ => mk _ _ _ _ rfl rfl ⟨d, l, rfl, rfl, hne, upd_same, by rw [upd_ne (Ne.symm hne)]; exact hl⟩ fun p hp => .inl (by rw [hA]; exact hp)) (fun p hp => ?_)
    simp only [List.mem_cons, List.not_mem_nil, or_false] at hp
    rcases hp with rfl | rfl
    · exact ⟨by rw [upd_same]; simp, ad.2.1, .inl (by rw [hA]; simp)⟩
    · exact ⟨by rw [upd_ne (Ne.symm hne), hl]; simp, al.2.1, .inl (by rw [hA]; simp)⟩
  · refine T.step (i := i) (fp' := [d, l]) (grow_mut T.w hl al.2.1 (fun _ => by simp) (fun _ _ => by simp)) (fun p hp => by rw [hA]; simp at hp; simp [hp]) (fun _ _ => rfl) rfl (fun _ => mk _ _ _ _ rfl rfl ⟨d, l, rfl, rfl, hne, by rw [upd_ne hne]; exact hd, upd_same⟩ fun p hp => .inl (by rw [hA]; exact hp)) (fun p hp => ?_)
    simp only [List.mem_cons, List.not_mem_nil, or_false] at hp
    rcases hp with rfl | rfl
    · exact ⟨by rw [upd_ne hne, hd]; simp, ad.2.1, .inl (by rw [hA]; simp)⟩
    · exact ⟨by rw [upd_same]; simp, al.2.1, .inl (by rw [hA]; simp)⟩
  · obtain ⟨fN, f0, _⟩ := T.w.fresh hl'
    have hdl : d ≠ l' := fun e => by rw [e, hl'] at hd; cases hd
    have g : Grow G H G.N (upd (upd H l' (.lst (ns.map V.int))) d (.dK (fdK l' f.2.1 f.2.2))) [d] := by
      refine ⟨fun a x e hp => ?_, fun a ha => ?_, fun a xs e => ?_, fun _ _ e => e, fun a x e => ⟨?_, .inl e⟩⟩
      · have h2 : a ≠ d := by simpa using hp
        have h3 : a ≠ l' := fun q => by rw [q, hl'] at e; cases e
        rw [upd_ne h2, upd_ne h3]; exact e
      · have : a = d := by simpa using ha
        rw [this, upd_same]; simp
      · have h3 : a ≠ l' := fun q => by rw [q, hl'] at e; cases e
        have h2 : a ≠ d := fun q => by rw [q, hd] at e; cases e
        rw [upd_ne h2, upd_ne h3]; exact e
      · have h2 : a ≠ d := fun q => by rw [q, ad.2.1] at e; cases e
        have h3 : a ≠ l' := fun q => by rw [q, fN] at e; cases e
        rw [upd_ne h2, upd_ne h3]; exact (T.w.new a x e).1
    refine T.step (i := i) (fp' := [d, l']) g (fun p hp => by rw [hA]; simp at hp; simp [hp]) (fun _ _ => rfl) rfl (fun _ => mk _ _ _ _ rfl rfl ⟨d, l', rfl, rfl, hdl, upd_same, by rw [upd_ne (Ne.symm hdl), upd_same]⟩ fun p hp => ?_) (fun p hp => ?_)
    · simp only [List.mem_cons, List.not_mem_nil, or_false] at hp
      rcases hp with rfl | rfl
      · exact .inl (by rw [hA]; simp)
      · exact .inr f0
    · simp only [List.mem_cons, List.not_mem_nil, or_false] at hp
      rcases hp with rfl | rfl
      · exact ⟨by rw [upd_same]; simp, ad.2.1, .inl (by rw [hA]; simp)⟩
      · exact ⟨by rw [upd_ne (Ne.symm hdl), upd_same]; simp, fN, .inr hl'⟩
structure EqT {α : Type} [DecidableEq α] (enc : α → PyData) (k : Nat) : Prop where
  lay : ∀ x, (enc x).canLay0 = true
  dep : ∀ x, (enc x).depth ≤ k
  eq : ∀ x y, PyData.eqv (enc x) (enc y) = decide (x = y)
theorem eqt_int : EqT PyData.int 0 := ⟨fun _ => rfl, fun _ => Nat.le_refl _, fun x y => by show (x == y) = _; rfl⟩
section
variable {α β γ : Type} [DecidableEq α] [DecidableEq β] [DecidableEq γ] {e1 : α → PyData} {e2 : β → PyData} {e3 : γ → PyData} {k k2 k3 : Nat}
theorem EqT.layA (h : EqT e1 k) : ∀ xs : List α, PyData.canLayAll0 (xs.map e1) = true
  | [] => rfl
  | x :: xs => by simp [PyData.canLayAll0, h.lay x, EqT.layA h xs]
theorem EqT.depA (h : EqT e1 k) : ∀ xs : List α, PyData.depthAll (xs.map e1) ≤ k
  | [] => Nat.zero_le _
  | x :: xs => by
    have a := h.dep x
    have b := EqT.depA h xs
    simp only [List.map_cons, PyData.depthAll]
    omega
theorem EqT.eqA (h : EqT e1 k) : ∀ xs ys : List α, PyData.eqvAll (xs.map e1) (ys.map e1) = decide (xs = ys)
  | [], [] => rfl
  | [], y :: ys => by simp [PyData.eqvAll]
  | x :: xs, [] => by simp [PyData.eqvAll]
  | x :: xs, y :: ys => by simp [PyData.eqvAll, h.eq x y, EqT.eqA h xs ys]
theorem eqt_list (h : EqT e1 k) : EqT (fun xs : List α => PyData.list (xs.map e1)) (k + 1) :=
  ⟨fun xs => by simpa [PyData.canLay0] using h.layA xs, fun xs => by simpa [PyData.depth] using h.depA xs, fun xs ys => by simpa [PyData.eqv] using h.eqA xs ys⟩
theorem EqT.sh (h : EqT e1 k) (hk : k ≤ 64) (x : α) : SeqAt.shaped (e1 x) = true := by
  unfold SeqAt.shaped
  rw [h.lay x, Bool.true_and]
  exact decide_eq_true (Nat.le_trans (h.dep x) hk)
end
def cellF (Γ : List Sl) (i : Nat) : Option (Bool × Fd) := match Γ[i]? with
  | some (.own (.feed f)) => some (false, f)
  | some (.io (.feed f)) => some (true, f)
  | _ => none
theorem cellF_ok {Γ : List Sl} {i : Nat} {z : Bool × Fd} (h : cellF Γ i = some z) : Γ[i]? = some (mkS z.1 (.feed z.2)) := by
  unfold cellF at h
  split at h
  · cases h; exact ‹_›
  · cases h; exact ‹_›
  · cases h
section
variable {X : Cx} {W : WX} {sc : Scope} {N : List Str} {e : Expr} {pos p p2 p3 : Pos} {x : Str} {fe : DF}
theorem pe_nm (C : Cf0 X W sc N) {i : Nat} {x : Str} {pos : Pos} (hN : N[i]? = some x) (hv : visB sc x = true) (hd : (x == ("__debug__" : Str)) = false := by decide +kernel) (hcd : (x == ("__classdict__" : Str)) = false := by decide +kernel) : PE X (.Name x pos) (tVar i) :=
  pe_var (i := i) (by rw [C.hN]; exact hN) (by rw [C.hsc]; exact vis_of hv) hd hcd
def dFdT (i : Nat) : DF := fun Γ => (R.ofO (cellF Γ i)).bind fun z => .val (.d true (.int z.2.2.1), Γ)
def dFdS (i : Nat) : DF := fun Γ => (R.ofO (cellF Γ i)).bind fun z => .val (.d true (.int z.2.2.2), Γ)
def dFd0 (i : Nat) : DF := fun Γ => (R.ofO (cellF Γ i)).bind fun z => (R.ofO (atI z.2.1 0)).bind fun n => .val (.d true (.int n), Γ)
def dFdN (i : Nat) : DF := fun Γ => (R.ofO (cellF Γ i)).bind fun z => .val (.d true (.bool (!decide (z.2.1 = ([] : List Int)))), Γ)
theorem ce_fdT (C : Cf0 X W sc N) {j : Nat} (i : Nat) (hN : N[i]? = some x) (hv : visB sc x = true) (hs : NoSl (.Constant (.str "turn") j p2) := by exact fun _ _ => rfl) (hd : (x == ("__debug__" : Str)) = false := by decide +kernel) (hcd : (x == ("__classdict__" : Str)) = false := by decide +kernel) : CE X W (.Subscript (.Name x p) (.Constant (.str "turn") j p2) pos) (dFdT i) := fun Γ =>
  pe_imp (pe_dget (u1 C) (pe_nm C hN hv hd hcd) (pe_str (x := "turn")) hs) fun σ H Q ⟨G, S, q⟩ => by
    obtain ⟨z, hz, q⟩ := Pst.ofO q
    obtain ⟨d, l, h1, h2, h3, h4, _⟩ := S.feed i z.1 (cellF_ok hz)
    exact ⟨.ref d, h1, d, .int z.2.2.1, rfl, .inl ⟨_, .inr "turn", .inl h3, rfl, rfl⟩, q G H (Ext.rf S.w) _ S (.int _)⟩
theorem ce_fdS (C : Cf0 X W sc N) {j : Nat} (i : Nat) (hN : N[i]? = some x) (hv : visB sc x = true) (hs : NoSl (.Constant (.str "seed") j p2) := by exact fun _ _ => rfl) (hd : (x == ("__debug__" : Str)) = false := by decide +kernel) (hcd : (x == ("__classdict__" : Str)) = false := by decide +kernel) : CE X W (.Subscript (.Name x p) (.Constant (.str "seed") j p2) pos) (dFdS i) := fun Γ =>
  pe_imp (pe_dget (u1 C) (pe_nm C hN hv hd hcd) (pe_str (x := "seed")) hs) fun σ H Q ⟨G, S, q⟩ => by
    obtain ⟨z, hz, q⟩ := Pst.ofO q
    obtain ⟨d, l, h1, h2, h3, h4, _⟩ := S.feed i z.1 (cellF_ok hz)
    exact ⟨.ref d, h1, d, .int z.2.2.2, rfl, .inl ⟨_, .inr "seed", .inl h3, rfl, rfl⟩, q G H (Ext.rf S.w) _ S (.int _)⟩
theorem ce_fd0 (C : Cf0 X W sc N) {j j2 : Nat} (i : Nat) (hN : N[i]? = some x) (hv : visB sc x = true) (hs : NoSl (.Constant (.str "cells") j p2) := by exact fun _ _ => rfl) (hs2 : PlainIx (.Constant (.int 0) j2 p3) := by exact fun _ _ => rfl) (hd : (x == ("__debug__" : Str)) = false := by decide +kernel) (hcd : (x == ("__classdict__" : Str)) = false := by decide +kernel) {q : Pos} :
    CE X W (.Subscript (.Subscript (.Name x p) (.Constant (.str "cells") j p2) q) (.Constant (.int 0) j2 p3) pos) (dFd0 i) := fun Γ =>
  pe_imp (pe_ix ix_list (pe_dget (u1 C) (pe_nm C hN hv hd hcd) (pe_str (x := "cells")) hs) pe_int hs2) fun σ H Q ⟨G, S, q⟩ => by
    obtain ⟨z, hz, q⟩ := Pst.ofO q
    obtain ⟨n, hc, q⟩ := Pst.ofO q
    obtain ⟨d, l, h1, h2, h3, h4, _⟩ := S.feed i z.1 (cellF_ok hz)
    refine ⟨.ref d, h1, d, .ref l, rfl, .inl ⟨_, .inr "cells", .inl h3, rfl, rfl⟩, l, _, 0, .int n, rfl, rfl, SqL.of h4, ?_, q G H (Ext.rf S.w) _ S (.int _)⟩
    have := atI_map (f := V.int) (xs := z.2.1) (i := 0)
    rw [this, hc]
    rfl
theorem ce_fdN (C : Cf0 X W sc N) {j : Nat} (i : Nat) (hN : N[i]? = some x) (hv : visB sc x = true) (hs : NoSl (.Constant (.str "cells") j p2) := by exact fun _ _ => rfl) (hm : behindInMarks .NotEq (.List [] p3) = false := by first | exact nobehind _ (by decide) (by decide) | rfl) (hd : (x == ("__debug__" : Str)) = false := by decide +kernel) (hcd : (x == ("__classdict__" : Str)) = false := by decide +kernel) {q : Pos} :
    CE X W (.Compare (.Subscript (.Name x p) (.Constant (.str "cells") j p2) q) [.NotEq] [.List [] p3] pos) (dFdN i) := fun Γ =>
  pe_imp (pe_cmpR (op_neD C.hu) (pe_dget (u1 C) (pe_nm C hN hv hd hcd) (pe_str (x := "cells")) hs) (pe_lst pa_nil) hm) fun σ H Q ⟨G, S, q⟩ => by
    obtain ⟨z, hz, q⟩ := Pst.ofO q
    obtain ⟨d, l, h1, h2, h3, h4, _⟩ := S.feed i z.1 (cellF_ok hz)
    refine ⟨.ref d, h1, d, .ref l, rfl, .inl ⟨_, .inr "cells", .inl h3, rfl, rfl⟩, Nat.zero_le _, fun a ha => ?_⟩
    have hla : l ≠ a := fun z => by rw [z, ha] at h4; cases h4
    obtain ⟨S2, e2⟩ := Sta.grow S (grow_own (o := .lst []) S.w ha)
    refine ⟨.list (z.2.1.map PyData.int), .list [], .lst (SqL.of (by rw [upd_ne hla]; exact h4)) ((ints_dna (G := RgH _) z.2.1).dp (eqt_int.layA _)), .lst (SqL.of upd_same) .nil, (eqt_list eqt_int).sh (by decide) z.2.1, (eqt_list eqt_int).sh (by decide) [], ?_⟩
    have this : PyData.eqv (.list (z.2.1.map PyData.int)) (.list []) = decide (z.2.1 = []) := (eqt_list eqt_int).eq z.2.1 []
    rw [this]
    exact q _ _ e2 _ S2 (.bl _)
def bFdT (i : Nat) (fe : DF) : DS := fun Γ => (fe Γ).bind fun y => (R.ofO (intA y.1)).bind fun n => (R.ofO (cellF y.2 i)).bind fun z => .val (.nx, y.2.set i (mkS z.1 (.feed (z.2.1, n, z.2.2.2))))
def bFdS (i : Nat) (fe : DF) : DS := fun Γ => (fe Γ).bind fun y => (R.ofO (intA y.1)).bind fun n => (R.ofO (cellF y.2 i)).bind fun z => .val (.nx, y.2.set i (mkS z.1 (.feed (z.2.1, z.2.2.1, n))))
def bFd0 (i : Nat) (fe : DF) : DS := fun Γ => (fe Γ).bind fun y => (R.ofO (intA y.1)).bind fun n => (R.ofO (cellF y.2 i)).bind fun z => (R.req (!decide (z.2.1 = ([] : List Int)))).bind fun _ => .val (.nx, y.2.set i (mkS z.1 (.feed (z.2.1.set 0 n, z.2.2))))
def bFdC (i : Nat) : DS := fun Γ => (R.ofO (cellF Γ i)).bind fun z => .val (.nx, Γ.set i (mkS z.1 (.feed (z.2.1.drop 1, z.2.2))))
theorem c1_fdT (C : Cf0 X W sc N) {j : Nat} (i : Nat) (hN : N[i]? = some x) (hv : visB sc x = true) (he : CE X W e fe) (hs : swapsWith e (some (.Subscript (.Name x p) (.Constant (.str "turn") j p2) p3)) pos.line X.env = pure false := by rfl) (hd : (x == ("__debug__" : Str)) = false := by decide +kernel) (hcd : (x == ("__classdict__" : Str)) = false := by decide +kernel) :
    C1 X W (.Assign [.Subscript (.Name x p) (.Constant (.str "turn") j p2) p3] e pos) (bFdT i fe) := fun Γ =>
  ps_imp (ps_dput (u1 C) (pe_nm C hN hv hd hcd) (pe_str (x := "turn")) (he Γ) hs) fun D σ H ⟨G, S, q⟩ => ⟨G, S, (Pst.bind q).imp fun y G1 H1 e1 q1 v S1 hv => by
    obtain ⟨n, hn, q1⟩ := Pst.ofO q1
    obtain ⟨z, hz, q1⟩ := Pst.ofO q1
    obtain ⟨d, l, h1, h2, h3, h4, h5, _⟩ := S1.feed i z.1 (cellF_ok hz)
    obtain ⟨S3, e3⟩ := h5 n z.2.2.2
    have hv := intA_ok hn hv
    subst hv
    exact ⟨.ref d, h1, d, _, rfl, .inl ⟨_, .inr "turn", h3, rfl, (by decide : 3 < sizeLine), rfl⟩, q1 G1 _ e3 σ S3⟩⟩
theorem c1_fdS (C : Cf0 X W sc N) {j : Nat} (i : Nat) (hN : N[i]? = some x) (hv : visB sc x = true) (he : CE X W e fe) (hs : swapsWith e (some (.Subscript (.Name x p) (.Constant (.str "seed") j p2) p3)) pos.line X.env = pure false := by rfl) (hd : (x == ("__debug__" : Str)) = false := by decide +kernel) (hcd : (x == ("__classdict__" : Str)) = false := by decide +kernel) :
    C1 X W (.Assign [.Subscript (.Name x p) (.Constant (.str "seed") j p2) p3] e pos) (bFdS i fe) := fun Γ =>
  ps_imp (ps_dput (u1 C) (pe_nm C hN hv hd hcd) (pe_str (x := "seed")) (he Γ) hs) fun D σ H ⟨G, S, q⟩ => ⟨G, S, (Pst.bind q).imp fun y G1 H1 e1 q1 v S1 hv => by
    obtain ⟨n, hn, q1⟩ := Pst.ofO q1
    obtain ⟨z, hz, q1⟩ := Pst.ofO q1
    obtain ⟨d, l, h1, h2, h3, h4, h5, _⟩ := S1.feed i z.1 (cellF_ok hz)
    obtain ⟨S3, e3⟩ := h5 z.2.2.1 n
    have hv := intA_ok hn hv
    subst hv
    exact ⟨.ref d, h1, d, _, rfl, .inl ⟨_, .inr "seed", h3, rfl, (by decide : 3 < sizeLine), rfl⟩, q1 G1 _ e3 σ S3⟩⟩
theorem c1_fd0 (C : Cf0 X W sc N) {j j2 : Nat} {q tpos : Pos} (i : Nat) (hN : N[i]? = some x) (hv : visB sc x = true) (he : CE X W e fe) (hs0 : NoSl (.Constant (.str "cells") j p2) := by exact fun _ _ => rfl) (hd : (x == ("__debug__" : Str)) = false := by decide +kernel) (hcd : (x == ("__classdict__" : Str)) = false := by decide +kernel)
    (has : ∀ v, assign (.Subscript (.Subscript (.Name x p) (.Constant (.str "cells") j p2) q) (.Constant (.int 0) j2 p3) tpos) X.env v = (do
      let ov ← holding [v] (eval (.Subscript (.Name x p) (.Constant (.str "cells") j p2) q) X.env)
      let iv ← holding [v, ov] (eval (.Constant (.int 0) j2 p3) X.env)
      standAt tpos
      holding [v, ov, iv] (setItem ov iv v)
      release [v, ov, iv] []) := by intro _; rfl)
    (hs : swapsWithSole [.Subscript (.Subscript (.Name x p) (.Constant (.str "cells") j p2) q) (.Constant (.int 0) j2 p3) tpos] e pos.line X.env = pure false := by rfl) (hw : swappedStores [.Subscript (.Subscript (.Name x p) (.Constant (.str "cells") j p2) q) (.Constant (.int 0) j2 p3) tpos] e X.env = pure none := by rfl) (h1 : (assignEach [.Subscript (.Subscript (.Name x p) (.Constant (.str "cells") j p2) q) (.Constant (.int 0) j2 p3) tpos] X.env).map (·.2) = [assign (.Subscript (.Subscript (.Name x p) (.Constant (.str "cells") j p2) q) (.Constant (.int 0) j2 p3) tpos) X.env] := by rfl) :
    C1 X W (.Assign [.Subscript (.Subscript (.Name x p) (.Constant (.str "cells") j p2) q) (.Constant (.int 0) j2 p3) tpos] e pos) (bFd0 i fe) := fun Γ =>
  ps_imp (ps_asg (he Γ) (pg_sub (pe_dget (u1 C) (pe_nm C hN hv hd hcd) (pe_str (x := "cells")) hs0) pe_int set_list has) hs hw h1) fun D σ H ⟨G, S, q⟩ => ⟨G, S, (Pst.bind q).imp fun y G1 H1 e1 q1 v S1 hv => by
    obtain ⟨n, hn, q1⟩ := Pst.ofO q1
    obtain ⟨z, hz, q1⟩ := Pst.ofO q1
    obtain ⟨hne, q1⟩ := Pst.req q1
    obtain ⟨d, l, h1, h2, h3, h4, _, h5, _⟩ := S1.feed i z.1 (cellF_ok hz)
    obtain ⟨S3, e3⟩ := h5 (z.2.1.set 0 n)
    have hv := intA_ok hn hv
    subst hv
    have hlen : ixN (z.2.1.map V.int).length 0 = some 0 := by
      cases hc : z.2.1 with
      | nil => rw [hc] at hne; simp at hne
      | cons a as => exact ixN0 (by simp)
    rw [List.map_set] at S3 e3
    exact ⟨.ref d, h1, d, .ref l, rfl, .inl ⟨_, .inr "cells", .inl h3, rfl, rfl⟩, l, _, 0, 0, rfl, rfl, h4, hlen, q1 G1 _ e3 σ S3⟩⟩
theorem cut1 (xs : List Int) : cutV (xs.map V.int) (some 1) none = (xs.drop 1).map V.int := by
  unfold cutV
  rw [HT.sIx_none]
  have : HT.sIx (xs.map V.int).length 0 (some 1) = min 1 (xs.map V.int).length := HT.sIx_nat _ _ 1
  rw [this]
  cases xs with
  | nil => rfl
  | cons x xs =>
    have e : (List.map V.int (x :: xs)).length = xs.length + 1 := by simp
    rw [e, Nat.min_eq_left (by omega)]
    show List.take (xs.length + 1 - 1) (List.map V.int xs) = List.map V.int xs
    have e2 : xs.length + 1 - 1 = (List.map V.int xs).length := by simp
    rw [e2, List.take_length]
theorem c1_fdC (C : Cf0 X W sc N) {j j2 j3 : Nat} {p1 p4 p5 p6 p7 : Pos} (i : Nat) (hN : N[i]? = some x) (hv : visB sc x = true) (hs0 : NoSl (.Constant (.str "cells") j2 p4) := by exact fun _ _ => rfl) (hd : (x == ("__debug__" : Str)) = false := by decide +kernel) (hcd : (x == ("__classdict__" : Str)) = false := by decide +kernel) {q : Pos}
    (hs : swapsWith (.Subscript (.Subscript (.Name x p1) (.Constant (.str "cells") j2 p4) p5) (.Slice (some (.Constant (.int 1) j3 p6)) none none p3) p7) (some (.Subscript (.Name x p) (.Constant (.str "cells") j p2) q)) pos.line X.env = pure false := by rfl) :
    C1 X W (.Assign [.Subscript (.Name x p) (.Constant (.str "cells") j p2) q] (.Subscript (.Subscript (.Name x p1) (.Constant (.str "cells") j2 p4) p5) (.Slice (some (.Constant (.int 1) j3 p6)) none none p3) p7) pos) (bFdC i) := fun Γ =>
  ps_imp (ps_dput (u1 C) (pe_nm C hN hv hd hcd) (pe_str (x := "cells")) (pe_slice sl_list (pe_dget (u1 C) (pe_nm C hN hv hd hcd) (pe_str (x := "cells")) hs0) (po_some pe_int) po_none) hs) fun D σ H ⟨G, S, q⟩ => by
    obtain ⟨z, hz, q⟩ := Pst.ofO q
    obtain ⟨d, l, h1, h2, h3, h4, _, _, h5⟩ := S.feed i z.1 (cellF_ok hz)
    refine ⟨.ref d, h1, d, .ref l, rfl, .inl ⟨_, .inr "cells", .inl h3, rfl, rfl⟩, 1, rfl, l, _, rfl, SqL.of h4, fun a ha => ⟨.ref d, h1, ?_⟩⟩
    obtain ⟨S3, e3⟩ := h5 a (z.2.1.drop 1) ha
    have hda : d ≠ a := fun z => by rw [z, ha] at h3; cases h3
    refine ⟨d, _, rfl, .inl ⟨fdK l z.2.2.1 z.2.2.2, .inr "cells", by rw [upd_ne hda]; exact h3, rfl, (by decide : 3 < sizeLine), rfl⟩, ?_⟩
    rw [cut1, fd_pcells]
    exact q G _ e3 σ S3
end
end PD
set_option Elab.async false
set_option linter.all false
set_option maxRecDepth 100000
set_option maxHeartbeats 4000000
set_option autoImplicit false
namespace PD
open PySem L2
def intsS : Option Sl → Option (List Int)
  | some (.dat _ (.list ds)) => intsOf ds
  | _ => none
section
variable {X : Cx} {W : WX} {sc : Scope} {N : List Str} {pos : Pos} {x : Str}
theorem cut_map {α β : Type} (f : α → β) (xs : List α) (lo hi : Option Int) : (cutD xs lo hi).map f = cutD (xs.map f) lo hi := by
  unfold cutD
  rw [List.map_take, List.map_drop, List.length_map]
def nFeed (i : Nat) : DC := fun Γ => (R.ofO (intsS Γ[i]?)).bind fun ns => .val (.feed (cutD ns none (some 63), 0, 0), Γ)
theorem cc_feed (C : Cf0 X W sc N) (i : Nat) {p1 p2 p3 p4 p5 p6 p7 p8 p9 q1 q2 : Pos} {j1 j2 j3 j4 j5 j6 : Nat} (hN : N[i]? = some x) (hv : visB sc x = true) (hg : glB sc "list" = true) (hm : X.mg "list" = none) (hd : (x == ("__debug__" : Str)) = false := by decide +kernel) (hcd : (x == ("__classdict__" : Str)) = false := by decide +kernel)
    (hst : starEach [.Subscript (.Name x p5) (.Slice none (some (.Constant (.int 63) j4 p6)) none p7) p8] X.env = (false, eval (.Subscript (.Name x p5) (.Slice none (some (.Constant (.int 63) j4 p6)) none p7) p8) X.env) :: starEach [] X.env := by rfl) :
    CC X W (.Dict [some (.Constant (.str "cells") j1 p1), some (.Constant (.str "turn") j2 p2), some (.Constant (.str "seed") j3 p3)] [.Call (.Name "list" p4) [.Subscript (.Name x p5) (.Slice none (some (.Constant (.int 63) j4 p6)) none p7) p8] [] p9, .Constant (.int 0) j5 q1, .Constant (.int 0) j6 q2] pos) (nFeed i) := fun Γ =>
  pe_imp (pe_disp (pps_cons pe_str (pe_callTy call_list_of (C.gl hg) hm PyProof.Rows.boot_list (pa_cons (pe_slice sl_list (pe_nm C hN hv hd hcd) po_none (po_some pe_int)) pa_nil hst) (by decide +kernel) (by decide +kernel) hst (by rfl)) (pps_cons pe_str pe_int (pps_cons pe_str pe_int pps_nil))) rfl rfl (by simp) (by simp)) fun σ H Q ⟨G, S, q0⟩ => by
    obtain ⟨ns, hns, q0⟩ := Pst.ofO q0
    have hs : ∃ fr ds, Γ[i]? = some (.dat fr (.list ds)) ∧ intsOf ds = some ns := by
      unfold intsS at hns
      split at hns
      · exact ⟨_, _, ‹_›, hns⟩
      · cases hns
    obtain ⟨fr, ds, hs, hi⟩ := hs
    have hds := intsOf_eq hi
    subst hds
    obtain ⟨A, T⟩ := id S
    obtain ⟨_, v, hv1, hv2⟩ := T.sl i _ hs
    obtain ⟨l, xs, rfl, g1, g2⟩ := dn_list hv2
    rw [dna_ints g2] at g1
    have g1 := (g1.mono (S.w.rgl fr)).sq
    intro p hp
    refine ⟨.ref l, hv1, 63, rfl, l, _, rfl, (same_upd hp).seq g1, fun q hq0 => ?_⟩
    have hcut : cutV (ns.map V.int) none (some 63) = (cutD ns none (some 63)).map V.int := (cut_map V.int ns none (some 63)).symm
    rw [hcut]
    generalize cutD ns none (some 63) = ms at q0 ⊢
    have hpq : p ≠ q := fun e => by rw [e, upd_same] at hq0; cases hq0
    have hq1 : H q = none := by rw [← hq0, upd_ne (Ne.symm hpq)]
    refine ⟨q, _, rfl, .inl (SqL.of upd_same), fun l' hl' => ?_⟩
    have hpl : p ≠ l' := fun e => by rw [e, upd_ne (e ▸ hpq), ← e, upd_same] at hl'; cases hl'
    have hql : q ≠ l' := fun e => by rw [e, upd_same] at hl'; cases hl'
    refine ⟨by rw [upd_ne hpl, upd_ne hpq, upd_same], fdK l' 0 0, rfl, (by decide : 3 ≤ 15), ?_⟩
    have hl1 : H l' = none := by rw [← hl', upd_ne (Ne.symm hql), upd_ne (Ne.symm hpl)]
    obtain ⟨S1, e1⟩ := S.grow (grow_own (o := .lst (ms.map V.int)) S.w hq1)
    have hl2 : upd H q (.lst (ms.map V.int)) l' = none := by rw [upd_ne (Ne.symm hql)]; exact hl1
    have hp2 : upd H q (.lst (ms.map V.int)) p = none := by rw [upd_ne hpq]; exact hp
    have nc : NewC X.K (rg G true) (upd H q (.lst (ms.map V.int))) (.feed (ms, 0, 0)) (.ref p) (upd (upd (upd H q (.lst (ms.map V.int))) l' (.lst (ms.map V.int))) p (.dK (fdK l' 0 0))) := by
      refine ⟨[p, l'], fun a ha => ?_, fun a ha => ?_, p, l', rfl, rfl, hpl, upd_same, by rw [upd_ne (Ne.symm hpl), upd_same]⟩
      · simp only [List.mem_cons, List.not_mem_nil, or_false, not_or] at ha
        rw [upd_ne ha.1, upd_ne ha.2]
      · simp only [List.mem_cons, List.not_mem_nil, or_false] at ha
        rcases ha with rfl | rfl
        · exact ⟨hp2, by rw [upd_same]; simp⟩
        · exact ⟨hl2, by rw [upd_ne (Ne.symm hpl), upd_same]; simp⟩
    have e : upd (upd (upd (upd H p (.dK [])) q (.lst (ms.map V.int))) l' (.lst (ms.map V.int))) p (.dK (mergeK [] (fdK l' 0 0))) = upd (upd (upd H q (.lst (ms.map V.int))) l' (.lst (ms.map V.int))) p (.dK (fdK l' 0 0)) := by
      funext z
      by_cases h1 : z = p
      · subst h1; rw [upd_same, upd_same]; rfl
      · rw [upd_ne h1, upd_ne h1]
        by_cases h2 : z = l'
        · subst h2; rw [upd_same, upd_same]
        · rw [upd_ne h2, upd_ne h2]
          by_cases h3 : z = q
          · subst h3; rw [upd_same, upd_same]
          · rw [upd_ne h3, upd_ne h3, upd_ne h1]
    rw [e]
    exact q0 G _ e1 _ _ S1 nc
end
end PD
set_option Elab.async false
set_option linter.all false
set_option maxRecDepth 100000
set_option maxHeartbeats 4000000
set_option autoImplicit false
namespace PD
open PySem L2
def Gv (P : Program) (w : World) (K : PySem.W.Frag) (mg : Str → Option Value) (base : Heap) (k : Nat) (x : Str) (dvs : List V) (sp : Sp) : Prop :=
  ∃ (f : Addr) (fd : FuncData) (ps : List Str) (ds : List Value), FnOk P w K mg base (L2.CX P w) k f fd ps sp ∧ mg x = some (.ref f) ∧ PySem.W.keepIn K (.ref f) = true ∧ Binds K fd ps ds ∧ Vals dvs ds
theorem Gv.clee {P : Program} {w : World} {K : PySem.W.Frag} {mg : Str → Option Value} {base : Heap} {k k' : Nat} {x : Str} {dvs : List V} {sp : Sp} {X : Cx} {W : WX} {scope : Scope} {N : List Str} (g : Gv P w K mg base k x dvs sp) (h : Here X W P w K mg base scope N k') (hk : k ≤ k') : Clee X x dvs sp := by
  obtain ⟨f, fd, ps, ds, h1, h2, h3, h4, h5⟩ := g
  refine ⟨k, f, fd, ps, ds, ?_, h.room.mono hk, ?_, ?_, ?_, h5⟩
  · rw [h.prog, h.w, h.K, h.mg, h.base]; exact h1
  · rw [h.mg]; exact h2
  · rw [h.K]; exact h3
  · rw [h.K]; exact h4
theorem Gv.of {P : Program} {w : World} {K : PySem.W.Frag} {mg : Str → Option Value} {base : Heap} {k : Nat} {x x' qual : Str} {params : Arguments} {body : List Stmt} {scope : Scope} {dvs : List V} {kws : List (Str × V)} {f : Addr} {fd : FuncData} {ps : List Str} {dv : List V} {ds : List Value} {sp : Sp}
    (F : FunD K x qual params body scope dvs kws f fd) (hm : mg x' = some (.ref f)) (ok : FnOk P w K mg base (L2.CX P w) k f fd ps sp) (b : Binds K fd ps ds) (hv : Vals dv ds) : Gv P w K mg base k x' dv sp := ⟨f, fd, ps, ds, ok, hm, F.kp, b, hv⟩
section
variable {X : Cx} {W : WX} {sc : Scope} {N : List Str} {a b c e : Expr} {es : List Expr} {pos p : Pos} {Γ : List Sl}
def GvK (P : Program) (w : World) (K : PySem.W.Frag) (mg : Str → Option Value) (base : Heap) (k : Nat) (x : Str) (n : Nat) (ks : List Str) (dvs : List V) (sp : Sp) : Prop :=
  ∃ (f : Addr) (fd : FuncData) (ps : List Str) (its : List Value), FnOk P w K mg base (L2.CX P w) k f fd ps sp ∧ mg x = some (.ref f) ∧ PySem.W.keepIn K (.ref f) = true ∧ KBn K fd ps n ks (fun us ws => us ++ ws ++ its) (fun vs zs => vs ++ zs ++ dvs)
def CleeK (X : Cx) (x : Str) (n : Nat) (ks : List Str) (dvs : List V) (sp : Sp) : Prop :=
  ∃ (k : Nat) (f : Addr) (fd : FuncData) (ps : List Str) (its : List Value), FnOk X.prog X.w X.K X.mg X.base (L2.CX X.prog X.w) k f fd ps sp ∧ Room k X.A ∧ X.mg x = some (.ref f) ∧ PySem.W.keepIn X.K (.ref f) = true ∧ KBn X.K fd ps n ks (fun us ws => us ++ ws ++ its) (fun vs zs => vs ++ zs ++ dvs)
theorem GvK.clee {P : Program} {w : World} {K : PySem.W.Frag} {mg : Str → Option Value} {base : Heap} {k k' : Nat} {x : Str} {n : Nat} {ks : List Str} {dvs : List V} {sp : Sp} {scope : Scope} (g : GvK P w K mg base k x n ks dvs sp) (h : Here X W P w K mg base scope N k') (hk : k ≤ k') : CleeK X x n ks dvs sp := by
  obtain ⟨f, fd, ps, its, g1, g2, g3, g4⟩ := g
  refine ⟨k, f, fd, ps, its, ?_, h.room.mono hk, ?_, ?_, ?_⟩
  · rw [h.prog, h.w, h.K, h.mg, h.base]; exact g1
  · rw [h.mg]; exact g2
  · rw [h.K]; exact g3
  · rw [h.K]; exact g4
theorem CleeK.blk {x : Str} {n : Nat} {ks : List Str} {dvs : List V} {sp : Sp} (h : CleeK X x n ks dvs sp) {s : Shared} {H : Hp} {scope : Scope} {ce : Env} {fp : List Addr} : CleeK (X.blk s H scope ce fp) x n ks dvs sp := h
theorem Gv.u {P : Program} {w : World} {K : PySem.W.Frag} {mg : Str → Option Value} {base : Heap} {k k' : Nat} {x : Str} {dvs : List V} {m : List Ar → R (Rs × List Sl)} {scope : Scope} (g : Gv P w K mg base k x dvs (spU K mg m)) (h : Here X W P w K mg base scope N k') (hk : k ≤ k') : Clee X x dvs (spU X.K X.mg m) := by
  have := g.clee h hk
  rw [h.K, h.mg]
  exact this
theorem GvK.u {P : Program} {w : World} {K : PySem.W.Frag} {mg : Str → Option Value} {base : Heap} {k k' : Nat} {x : Str} {n : Nat} {ks : List Str} {dvs : List V} {m : List Ar → R (Rs × List Sl)} {scope : Scope} (g : GvK P w K mg base k x n ks dvs (spU K mg m)) (h : Here X W P w K mg base scope N k') (hk : k ≤ k') : CleeK X x n ks dvs (spU X.K X.mg m) := by
  have := g.clee h hk
  rw [h.K, h.mg]
  exact this
theorem cs_bad {ss : List Stmt} : CS X W ss bBad := fun Γ => ⟨fun pins s σ H D I ⟨G, S, p⟩ => p.elim⟩
section
variable {x : Str} {dvs : List V} {dds : List PyData} {m : List Ar → R (Rs × List Sl)} {kws : List Keyword} {ks : List Str} {n : Nat} {k kk : DA}
theorem AVs.append {K : PySem.W.Frag} {G : Gh} {H : Hp} {σ : St} : ∀ {vs us : List V} {as bs : List AV}, AVs K G H σ vs as → AVs K G H σ us bs → AVs K G H σ (vs ++ us) (as ++ bs)
  | _, _, _, _, .nil, h => h
  | _, _, _, _, .cons q r, h => .cons q (AVs.append r h)
end
end
end PD
set_option Elab.async false
set_option linter.all false
set_option maxRecDepth 100000
set_option maxHeartbeats 4000000
set_option autoImplicit false
namespace PD
open PySem L2
abbrev DX := List Sl → R (Rs × List Sl)
def FinX (K : PySem.W.Frag) (G : Gh) (H : Hp) (σ : St) (Γ : List Sl) (Q : VK) : Rs → Prop
  | .d x => ∀ v, Sta K G H σ Γ → Dn K (rg G true) H v x → Q v H
  | .c c => ∀ v H2, Sta K G H σ Γ → NewC K (rg G true) H c v H2 → Q v H2
def rdX (X : Cx) (W : WX) (Γ : List Sl) (m : R (Rs × List Sl)) : TE := fun σ H Q => ∃ G, Sta X.K G H σ Γ ∧ Pst X W G H σ m fun r G' H' => FinX X.K G' H' σ r.2 Q r.1
def CX (X : Cx) (W : WX) (e : Expr) (f : DX) : Prop := ∀ Γ, PE X e (rdX X W Γ (f Γ))
section
variable {X : Cx} {W : WX} {sc : Scope} {N : List Str} {e : Expr} {es : List Expr} {pos p : Pos} {x : Str} {dvs : List V} {dds : List PyData} {m : List Ar → R (Rs × List Sl)} {kws : List Keyword} {ks : List Str} {n : Nat} {k kk : DA} {f : DX}
def xC (n : DC) : DX := fun Γ => (n Γ).bind fun z => .val (.c z.1, z.2)
theorem cx_c {n : DC} (h : CC X W e n) : CX X W e (xC n) := fun Γ => pe_imp (h Γ) fun σ H Q ⟨G, S, q⟩ => ⟨G, S, (Pst.bind q).imp fun z G1 H1 e1 p1 v H2 S1 nc => p1 G1 H1 (Ext.rf S1.w) v H2 S1 nc⟩
def xCall (m : List Ar → R (Rs × List Sl)) (dds : List PyData) (k : DA) : DX := fun Γ => (k Γ).bind fun z => (R.ofO (rdDs z.2 none z.1)).bind fun ds => ((m ((ds ++ dds).map Ar.d)).atX z.2).bind fun r => .val (r.1, z.2)
theorem cx_call (C : Cf0 X W sc N) (hc : Clee X x dvs (spU X.K X.mg m)) (hg : glB sc x = true) (hdv : ∀ G H, DnA X.K G H dvs dds) (ha : CA X W (e :: es) k)
    (hdb : (x == ("__debug__" : Str)) = false := by decide +kernel) (he : starEach (e :: es) X.env = (false, eval e X.env) :: starEach es X.env := by rfl) (hpl : (backTo pos (starEach es X.env)).any (·.1) = false := by rfl) : CX X W (.Call (.Name x p) (e :: es) [] pos) (xCall m dds k) := fun Γ => by
  obtain ⟨k', f, fd, ps, dss, F, hr, hm, hk, hb, hd⟩ := hc
  refine pe_imp (pe_callSD (E := fun σ cls d H => W cls d σ H) F hr (C.gl hg) hm hk hb hd (fun σ => passAt C.tk σ) (ha Γ) hdb he hpl) fun σ H Q ⟨G, S, q⟩ => ⟨G, S, (Pst.bind q).imp fun z G1 H1 e1 p1 vs S1 av => ?_⟩
  obtain ⟨ds, hds, p1⟩ := Pst.ofO p1
  refine callD_core hdv S1 av hds ((Pst.bind p1).imp fun r G2 H2 e2 p2 S2 => ?_)
  cases hz : r.1 with
  | d w =>
    have p2 := p2 G2 H2 (Ext.rf S2.w)
    rw [hz] at p2
    exact fun v hv => p2 v S2 hv
  | c w =>
    have p2 := p2 G2 H2 (Ext.rf S2.w)
    rw [hz] at p2
    exact fun v H3 hn => p2 v H3 S2 hn
def xCallC (m : List Ar → R (Rs × List Sl)) (n : Nat) (dds : List PyData) (k : DA) : DX := fun Γ => (k Γ).bind fun z => (preC n dds z).bind fun y => ((m y.2.2).atC n z.2 y.1 y.2.1).bind fun r => .val (r.1, r.2)
theorem cx_callC (C : Cf0 X W sc N) (n : Nat) (hc : Clee X x dvs (spU X.K X.mg m)) (hg : glB sc x = true) (hdv : ∀ G H, DnA X.K G H dvs dds) (ha : CA X W (e :: es) k)
    (hdb : (x == ("__debug__" : Str)) = false := by decide +kernel) (he : starEach (e :: es) X.env = (false, eval e X.env) :: starEach es X.env := by rfl) (hpl : (backTo pos (starEach es X.env)).any (·.1) = false := by rfl) : CX X W (.Call (.Name x p) (e :: es) [] pos) (xCallC m n dds k) := fun Γ => by
  obtain ⟨k', f, fd, ps, dss, F, hr, hm, hk, hb, hd⟩ := hc
  refine pe_imp (pe_callSD (E := fun σ cls d H => W cls d σ H) F hr (C.gl hg) hm hk hb hd (fun σ => passAt C.tk σ) (ha Γ) hdb he hpl) fun σ H Q ⟨G, S, q⟩ => ⟨G, S, (Pst.bind q).imp fun z G1 H1 e1 p1 vs S1 av => ?_⟩
  obtain ⟨i, ic, ds, h1, h2, h3, h4, p1⟩ := preC_ok p1
  refine callC_core hdv S1 av h1 h2 h3 h4 ((Pst.bind p1).imp fun r G2 H2 e2 p2 S2 => ?_)
  cases hz : r.1 with
  | d w =>
    have p2 := p2 G2 H2 (Ext.rf S2.w)
    rw [hz] at p2
    exact fun v hv => p2 v S2 hv
  | c w =>
    have p2 := p2 G2 H2 (Ext.rf S2.w)
    rw [hz] at p2
    exact fun v H3 hn => p2 v H3 S2 hn
def rsF : Rs → Option PyData
  | .d x => some x
  | .c c => frzC c
def eX (f : DX) : DF := fun Γ => (f Γ).bind fun z => (R.ofO (rsF z.1)).bind fun d => .val (.d true d, z.2)
theorem ce_x (h : CX X W e f) : CE X W e (eX f) := fun Γ => pe_imp (h Γ) fun σ H Q ⟨G, S, q⟩ => ⟨G, S, (Pst.bind q).imp fun z G1 H1 e1 p1 => by
  obtain ⟨r, Γ1⟩ := z
  cases r with
  | d x =>
    intro v S1 hv
    exact p1 G1 H1 (Ext.rf S1.w) v S1 hv
  | c c =>
    intro v H2 S1 nc
    obtain ⟨d, hd, p1⟩ := Pst.ofO p1
    obtain ⟨G2, S2, e2, hv⟩ := NewC.frz S1 nc hd
    exact p1 G2 H2 e2 v S2 hv⟩
def rsS : Rs → Sl
  | .d x => .dat true x
  | .c c => .own c
def bSetX (i : Nat) (f : DX) : DS := fun Γ => (f Γ).bind fun z => .val (.nx, z.2.set i (rsS z.1))
theorem c1_setX (C : Cf0 X W sc N) (i : Nat) {x : Str} {p' : Pos} (hN : N[i]? = some x) (hv : Sto X sc x) (he : CX X W e f) (hs : swapsWith e (some (.Name x p')) pos.line X.env = pure false := by rfl) : C1 X W (.Assign [.Name x p'] e pos) (bSetX i f) := fun Γ => by
  have hx : Loc X.env.scope x := by rw [C.hsc]; exact hv.1
  refine ps_imp (ps_set (i := i) (by rw [C.hN]; exact C.nd) (by rw [C.hN]; exact hN) hx (he Γ) hs (by rw [C.hsc]; exact hv.2)) fun D σ H ⟨G, S, p⟩ => ⟨G, S, (Pst.bind p).imp fun z G1 H1 e1 p1 => ?_⟩
  obtain ⟨r, Γ1⟩ := z
  cases r with
  | d x =>
    intro v S1 hv
    exact p1 G1 H1 (Ext.rf S1.w) _ (S1.put i hv)
  | c c =>
    intro v H2 S1 nc
    obtain ⟨S2, e2⟩ := S1.putC i nc
    exact p1 G1 H2 e2 _ S2
def bRetX (f : DX) : DS := fun Γ => (f Γ).bind fun z => .val (.rt z.1, z.2)
theorem c1_retX (he : CX X W e f) : C1 X W (.Return (some e) pos) (bRetX f) := fun Γ =>
  ps_imp (ps_ret (he Γ)) fun D σ H ⟨G, S, p⟩ => ⟨G, S, (Pst.bind p).imp fun z G1 H1 e1 p1 => by
    obtain ⟨r, Γ1⟩ := z
    cases r with
    | d x =>
      intro v S1 hv
      exact p1 G1 H1 (Ext.rf S1.w) σ v S1 hv
    | c c =>
      intro v H2 S1 nc
      exact p1 G1 H1 (Ext.rf S1.w) σ v H2 S1 nc⟩
def bExprX (f : DX) : DS := fun Γ => (f Γ).bind fun z => (R.ofO (rsF z.1)).bind fun _ => .val (.nx, z.2)
end
end PD
set_option Elab.async false
set_option linter.all false
set_option maxRecDepth 100000
set_option maxHeartbeats 4000000
set_option autoImplicit false
namespace PD
open PySem L2
section
variable {X : Cx} {W : WX} {sc : Scope} {N : List Str} {a b e : Expr} {es : List Expr} {pos p p2 : Pos} {f g : DF}
def cutX (x : AV × List Sl) (l h : Option Int × List Sl) : R (Rs × List Sl) := match lsA h.2 x.1 with
  | some ds => .val (.c (.lst (cutD ds l.1 h.1)), h.2)
  | none => match x.1 with
    | .d fr (.tuple ds) => gq (fr || flat.flatA ds) (.d (.tuple (cutD ds l.1 h.1)), h.2)
    | _ => .bad
def xCut (f : DF) (lo hi : DO) : DX := fun Γ => (f Γ).bind fun x => (lo x.2).bind fun l => (hi l.2).bind fun h => cutX x l h
theorem cx_cut {lo hi : Option Expr} {fl fh : DO} (ha : CE X W a f) (hl : CO X W lo fl) (hh : CO X W hi fh) : CX X W (.Subscript a (.Slice lo hi none p2) pos) (xCut f fl fh) := fun Γ =>
  pe_imp (pe_slice (sl_list.or sl_tupA) (ha Γ) (po_any fun x : AV × List Sl => hl x.2) (po_any fun x : Option Int × List Sl => hh x.2)) fun σ H Q ⟨G, S, q⟩ => ⟨G, S, (Pst.bind q).imp fun x G1 H1 e1 q1 v S1 hv => ⟨x, G1, S1, (Pst.bind q1).imp fun l G2 H2 e2 q2 S2 => ⟨l, G2, S2, (Pst.bind q2).imp fun h G3 H3 e3 q3 S3 => by
    have hv := hv.ext (e2.tr e3)
    unfold cutX at q3
    split at q3
    · rename_i ds hd
      obtain ⟨p, xs, rfl, g1, g2⟩ := lsA_ok hd S3 hv
      exact .inl ⟨p, xs, rfl, g1, fun r hr => q3 G3 H3 (Ext.rf S3.w) _ _ S3 (newc_lst hr (g2.cut _ _))⟩
    · split at q3
      · rename_i fr ds hx
        rw [hx] at hv
        obtain ⟨hc, q3⟩ := Pst.req q3
        obtain ⟨r, xs, rfl, g1, g2⟩ := dn_tupleH hv
        have g2 := g2.fresh hc
        refine .inr ⟨r, xs, rfl, SqT.of g1, fun hw => ?_, fun hw t ht => ?_⟩
        · refine q3 G3 H3 (Ext.rf S3.w) _ S3 ?_
          rw [g2.length] at hw
          show Dn X.K (rg G3 true) H3 _ (.tuple (cutD ds l.1 h.1))
          rw [cut_whole ds hw]
          exact .tup g1 g2
        · obtain ⟨G4, S4, e4, h4⟩ := S3.newTup ht (g2.cut l.1 h.1)
          exact q3 G4 _ e4 _ S4 h4
      · exact q3.elim⟩⟩⟩
theorem spU_law {K : PySem.W.Frag} {mg : Str → Option Value} {H : Hp} {a : Addr} {ns : List Int} {m : List Ar → R (Rs × List Sl)} (h : m [.d (.list (ns.map PyData.int))] = .val (.d (.bool true), [.un])) (hS : SqL K H a (ns.map V.int)) : spU K mg m [.ref a] H (fun v _ => v = .bl true) fun _ _ _ => False := by
  refine ⟨[.d (.list (ns.map PyData.int))], fun _ => [], [], fun _ => none, ?_, ?_⟩
  · refine argsD (ds := [.list (ns.map PyData.int)]) (.cons (.lst ((LsR.of_sq hS).mono fun _ _ z => ⟨z, by simp⟩) (ints_dna ns)) .nil) (fun a o h => by cases h)
  · rw [h]
    exact fun H' N F' _ v hv => dn_bool hv
end
end PD
set_option Elab.async false
set_option linter.all false
set_option maxRecDepth 100000
set_option maxHeartbeats 4000000
set_option autoImplicit false
namespace PD
open PySem PySem.Spec L2
open PyProof.Rows hiding St
section
variable {X : Cx} {W : WX} {sc : Scope} {N : List Str} {a b c e : Expr} {es : List Expr} {pos p p2 q2 : Pos} {f g h : DF}
def ndI (ns : List Int) : Bool := lt64 ns && decide ns.Nodup
theorem pe_lenSetU {ta : TE} (hc : X.calm = true) (hg : Gl X "len") (hm : X.mg "len" = none) (hg2 : Gl X "set") (hm2 : X.mg "set" = none) (ha : PE X a ta)
    (na : starEach [a] X.env = (false, eval a X.env) :: starEach [] X.env := by rfl) : PE X (.Call (.Name "len" p) [.Call (.Name "set" p2) [a] [] q2] [] pos)
      (fun σ H Q => ta σ H fun x H1 => ∃ (l : Addr) (ns : List Int), x = .ref l ∧ (SqL X.K H1 l (ns.map V.int) ∨ SqT X.K H1 l (ns.map V.int)) ∧ ns.length < 4000 ∧ Q (.int ((setI ns).length : Nat)) H1) := by
  refine ⟨fun pins s σ H Q I h => ?_⟩
  refine Call_ (ld_blt I hg hm PySem.boot_len ?_)
  refine callWith_builtin1 (args_cons ?_ rfl) rfl rfl
  refine Call_ (ld_blt I hg2 hm2 boot_set ?_)
  refine callWith_type1 (args_cons (thn (ha.run pins s σ H _ I h) fun v s1 ⟨x, H1, I1, r1, q1⟩ => args_nil ?_) na) na rfl
  obtain ⟨l, ns, rfl, hq, hlen, q1⟩ := q1
  cases r1
  have fin : ∀ (h' : Heap) (tk c : Nat), SetR X.w h' s1.heap.objs.size (fun j => decide (j ∈ ns)) c → c ≤ ns.length → (∀ b o, s1.heap.get? b = some o → h'.get? b = some o) →
      wpAny (PySem.model X.prog X.w) X.A (PySem.call (.builtin "len") [.ref s1.heap.objs.size]) (fun v s' => ∃ x H', Inv X pins σ H' s' ∧ RelV x v ∧ Q x H') X.xe { s1 with heap := h', toks := tk } := fun h' tk c R1 hc1 hk => by
    have I2 : Inv X pins σ H1 { s1 with heap := h', toks := tk } := I1.kept hk
    have hcnt := setR_count R1
    obtain ⟨o, es, ep, t, ho, hex, hd, _, _, _, hlt, hf, hn, _⟩ := R1
    have e : es.size = (setI ns).length := by rw [hn, hcnt]
    refine call_len_set ho hex hd hf (by rw [hn] <;> omega) ⟨.int ((setI ns).length : Nat), H1, I2.tok _, ⟨_, by rw [e]⟩, q1⟩
  rcases hq with hq | hq
  · obtain ⟨its, r, pl, hz⟩ := I1.list hq
    exact set_of_list ns (I1.ok.hd hc) pl.isList (by simpa using intsAre_of r) (by unfold scanBound; omega) fun h' tk c a b d => args_nil (fin h' tk c a b d)
  · obtain ⟨its, r, pl, hz⟩ := I1.tuple hq
    exact call_set_tupI ns (I1.ok.hd hc) (show s1.heap.IsTuple l its.toArray from pl) (by simpa using intsAre_of r) (by unfold scanBound; omega) fun h' tk c a b d => args_nil (fin h' tk c a b d)
def kLsetN (Γ : List Sl) (x : AV) : R Int := match rdSeq Γ x with
  | some z => (R.ofO (intsOf z.1)).bind fun ns => gq (decide (ns.length < 4000)) (((setI ns).length : Nat) : Int)
  | none => .bad
def dLset (f : DF) : DF := fun Γ => (f Γ).bind fun z => (kLsetN z.2 z.1).bind fun n => .val (.d true (.int n), z.2)
theorem ce_lset (C : Cf X W sc N) (hg : glB sc "len" = true) (hm : X.mg "len" = none) (hg2 : glB sc "set" = true) (hm2 : X.mg "set" = none) (ha : CE X W a f) (na : starEach [a] X.env = (false, eval a X.env) :: starEach [] X.env := by rfl) :
    CE X W (.Call (.Name "len" p) [.Call (.Name "set" p2) [a] [] q2] [] pos) (dLset f) := fun Γ =>
  pe_imp (pe_lenSetU C.calm (C.gl hg) hm (C.gl hg2) hm2 (ha Γ) na) fun σ H Q ⟨G, S, q⟩ => ⟨G, S, (Pst.bind q).imp fun x G1 H1 e1 p1 v S1 hv => by
    unfold kLsetN at p1
    split at p1
    · rename_i z hz
      obtain ⟨l, xs, rfl, hs, hd⟩ := rdSeq_ok S1 hv hz
      cases hi : intsOf z.1 with
      | none => rw [hi] at p1; exact p1.elim
      | some ns =>
        rw [hi] at p1
        rcases gq_cases (decide (ns.length < 4000)) (((setI ns).length : Nat) : Int) with e | ⟨hc, e⟩
        · have p1 : Pst X W G1 H1 σ ((gq (decide (ns.length < 4000)) (((setI ns).length : Nat) : Int)).bind fun n => .val (AV.d true (.int n), x.2)) _ := p1
          rw [e] at p1; exact p1.elim
        · have p1 : Pst X W G1 H1 σ ((gq (decide (ns.length < 4000)) (((setI ns).length : Nat) : Int)).bind fun n => .val (AV.d true (.int n), x.2)) _ := p1
          rw [e] at p1
          rw [intsOf_eq hi] at hd
          rw [dna_ints hd] at hs
          exact ⟨l, ns, rfl, hs.imp id SqT.of, of_decide_eq_true hc, p1 G1 H1 (Ext.rf S1.w) _ S1 (.int _)⟩
    · exact p1.elim⟩
def cLrg (i j : Int) : Bool := cRng i j && decide ((j - i).toNat ≤ 2 ^ 24)
def dLrng1 (f : DF) : DN := fun Γ => (f Γ).bind fun z => (R.ofO (intA z.1)).bind fun j => gq (cLrg 0 j) ((rng 0 j).map PyData.int, z.2)
def dLrng2 (f g : DF) : DN := fun Γ => (f Γ).bind fun z => (g z.2).bind fun y => (R.ofO (intA z.1)).bind fun i => (R.ofO (intA y.1)).bind fun j => gq (cLrg i j) ((rng i j).map PyData.int, y.2)
end
end PD
set_option Elab.async false
set_option linter.all false
set_option maxRecDepth 100000
set_option maxHeartbeats 4000000
set_option autoImplicit false
namespace PD
open PySem L2
def ItK (t : Bool) (h : Heap) (it l : Addr) (i : Nat) : Prop := match t with
  | true => h.IsTupleIter it l i
  | false => h.IsListIter it l i
def SqK (t : Bool) (h : Heap) (l : Addr) (xs : Array Value) : Prop := match t with
  | true => h.IsTuple l xs
  | false => h.IsList l xs
theorem ItK.e {t : Bool} {h h' : Heap} {it b l : Addr} {i : Nat} (x : ItK t h it l i) (hs : Heap.ExtBut b h h') (n : it ≠ b) : ItK t h' it l i := by
  cases t
  · exact Heap.IsListIter.extBut x hs n
  · exact Heap.IsTupleIter.extBut x hs n
theorem ItK.at {t : Bool} {h h' : Heap} {it l : Addr} {i : Nat} (x : ItK t h it l i) (k : ∀ o, h.get? it = some o → h'.get? it = some o) : ItK t h' it l i := by
  cases t
  · exact Heap.IsListIter.at x k
  · exact Heap.IsTupleIter.at x k
theorem ItK.ob {t : Bool} {h : Heap} {it l : Addr} {i : Nat} (x : ItK t h it l i) : ∃ o fs, h.get? it = some o ∧ o.data = .fields fs := by
  cases t
  · obtain ⟨o, h1, _, h2⟩ := x; exact ⟨o, _, h1, h2⟩
  · obtain ⟨o, h1, _, h2⟩ := x; exact ⟨o, _, h1, h2⟩
theorem SqK.e {t : Bool} {h h' : Heap} {l b : Addr} {xs : Array Value} (x : SqK t h l xs) (hs : Heap.ExtBut b h h') (n : l ≠ b) : SqK t h' l xs := by
  cases t
  · exact Heap.IsList.extBut x hs n
  · exact Heap.IsTuple.extBut x hs n
theorem SqK.p {t : Bool} {h : Heap} {l : Addr} {xs : Array Value} (x : SqK t h l xs) (o : Obj) : SqK t (h.push o) l xs := by
  cases t
  · exact Heap.IsList.push x o
  · exact Heap.IsTuple.push x o
section
variable {prog : Program} {w : World} {A : Around} {E : Value → Shared → Prop} {s : Shared}
theorem nxK {t : Bool} {it l : Addr} {i : Nat} {xs : Array Value} {x : Value} {Q : Value → Shared → Prop} (hi : ItK t s.heap it l i) (hl : SqK t s.heap l xs) (hx : xs[i]? = some x) (hQ : ∀ h', ItK t h' it l (i + 1) → Heap.SameBut it s.heap h' → Q x { s with heap := h' }) : wpAny (model prog w) A (Builtin.SmallTypes.nextOf (.ref it)) Q E s := by
  cases t
  · exact wpAny_nextOf_list_item hi hl hx hQ
  · exact RZ.nextOf_tuple_item hi hl hx hQ
theorem nxK0 {t : Bool} {it l : Addr} {i : Nat} {xs : Array Value} {Q : Value → Shared → Prop} (hh : A.handled = none) (hi : ItK t s.heap it l i) (hl : SqK t s.heap l xs) (hx : xs[i]? = none) (hE : ∀ h' e, Heap.ExtBut it s.heap h' → (∃ o, h'.get? e = some o ∧ o.cls = .type "StopIteration") → E (.ref e) { s with heap := h' }) : wpAny (model prog w) A (Builtin.SmallTypes.nextOf (.ref it)) Q E s := by
  cases t
  · exact wpAny_nextOf_list_end hh hi hl hx hE
  · exact RZ.nextOf_tuple_end hh hi hl hx hE
variable {t1 t2 : Bool} {z TI TO i1 i2 l1 l2 : Addr} {k1 k2 : Nat} {xs ys : Array Value}
theorem zk_item {x y a b : Value} {Q : Value → Shared → Prop} (D : ZipApart z TI TO i1 i2 l1 l2) (hz : IsZip s.heap z TI TO .none) (hTI : IsPair s.heap TI (.ref i1) (.ref i2)) (hTO : IsPair s.heap TO a b) (h1 : ItK t1 s.heap i1 l1 k1) (h2 : ItK t2 s.heap i2 l2 k2) (hl1 : SqK t1 s.heap l1 xs) (hl2 : SqK t2 s.heap l2 ys) (hx : xs[k1]? = some x) (hy : ys[k2]? = some y)
    (hQ : ∀ h', IsZip h' z TI TO (rawInt s.heap.objs.size) → IsPair h' TO x y → ItK t1 h' i1 l1 (k1 + 1) → ItK t2 h' i2 l2 (k2 + 1) → IsPair h' s.heap.objs.size x y → (∀ c o, c ≠ z → c ≠ TO → c ≠ i1 → c ≠ i2 → s.heap.get? c = some o → h'.get? c = some o) → Q (.ref s.heap.objs.size) { s with heap := h' }) :
    wpAny (model prog w) A (Builtin.«zip.__next__» ⟨[.ref z], []⟩) (fun fin s' => ∃ v, fin = .done (.ret v) ∧ Q v s') E s := by
  show wpAny _ _ (field (.ref z) 2 >>= _) _ _ _; refine wpAny_bind (wpAny_field hz rfl (x := .bool false) rfl (show wpAny _ _ (field (.ref z) 3 >>= _) _ _ _ from wpAny_bind (wpAny_field hz rfl (x := .ref TI) rfl (wpAny_bind (wpAny_seqItems hTI rfl ?_)))))
  show wpAny _ _ (Builtin.SmallTypes.ownedTupleIsFree (.ref z) >>= _) _ _ _; refine wpAny_bind ?_
  unfold Builtin.SmallTypes.ownedTupleIsFree; refine wpAny_bind (wpAny_field hz rfl (x := .none) rfl (wpAny_pure ?_)); simp only [if_true]
  refine wpAny_bind (wpAny_rule (wpAny_bind (wpAny_field hz rfl (x := .ref TO) rfl (wpAny_bind (wpAny_setField_rec hz (by simp) fun g1 z1 b1 => wpAny_bind ?_)))))
  have z1 : IsZip g1 z TI TO .ellipsis := z1; simp only [List.zipIdx_cons, List.zipIdx_nil, List.forIn_cons, List.forIn_nil]
  refine wpAny_bind (wpAny_bind (wpAny_onRaise (show wpAny _ _ (Builtin.SmallTypes.nextOf (.ref i1) >>= _) _ _ _ from wpAny_bind (nxK (h1.e b1.extBut D.i1z) (hl1.e b1.extBut D.l1z) hx fun g2 n2 b2 => wpAny_pure ?_))))
  have o2 : IsPair g2 TO a b := b2.extBut _ _ D.TOi1 (b1.extBut _ _ D.TOz hTO)
  refine wpAny_bind (wpAny_seqItems o2 rfl (wpAny_bind (wpAny_updateSeq_pair o2 fun g3 o3 b3 => wpAny_bind (wpAny_letGo (wpAny_pure ?_)))))
  have o3 : IsPair g3 TO x b := o3
  refine wpAny_bind (wpAny_bind (wpAny_onRaise (show wpAny _ _ (Builtin.SmallTypes.nextOf (.ref i2) >>= _) _ _ _ from wpAny_bind (nxK (((h2.e b1.extBut D.i2z).e b2.extBut D.i12.symm).e b3.extBut D.TOi2.symm) (((hl2.e b1.extBut D.l2z).e b2.extBut D.l2i1).e b3.extBut D.l2TO) hy fun g4 n4 b4 => wpAny_pure ?_))))
  have o4 : IsPair g4 TO x b := b4.extBut _ _ D.TOi2 o3
  refine wpAny_bind (wpAny_seqItems o4 rfl (wpAny_bind (wpAny_updateSeq_pair o4 fun g5 o5 b5 => wpAny_bind (wpAny_letGo (wpAny_pure (wpAny_pure ?_))))))
  have o5 : IsPair g5 TO x y := o5
  refine wpAny_bind (wpAny_seqItems o5 rfl (wpAny_bind (wpAny_newTuple ?_)))
  have sz : g5.objs.size = s.heap.objs.size := by rw [b5.1, b4.1, b3.1, b2.1, b1.1]
  have z5 : IsZip g5 z TI TO .ellipsis := b5.extBut _ _ D.TOz.symm (b4.extBut _ _ D.i2z.symm (b3.extBut _ _ D.TOz.symm (b2.extBut _ _ D.i1z.symm z1)))
  have kp : ∀ c o, c ≠ z → c ≠ TO → c ≠ i1 → c ≠ i2 → s.heap.get? c = some o → g5.get? c = some o := fun c o c1 c2 c3 c4 q => b5.extBut _ _ c2 (b4.extBut _ _ c4 (b3.extBut _ _ c2 (b2.extBut _ _ c3 (b1.extBut _ _ c1 q))))
  have m1 : ItK t1 g5 i1 l1 (k1 + 1) := ((n2.e b3.extBut D.TOi1.symm).e b4.extBut D.i12).e b5.extBut D.TOi1.symm
  have m2 : ItK t2 g5 i2 l2 (k2 + 1) := n4.e b5.extBut D.TOi2.symm
  have zl : z < g5.objs.size := Heap.lt_size z5
  show wpAny _ _ (Builtin.SmallTypes.ownedTupleHandOut (.ref z) (.ref g5.objs.size) >>= _) _ _ _; refine wpAny_bind ?_; unfold Builtin.SmallTypes.ownedTupleHandOut
  have z6 : IsZip (g5.push { cls := .type "tuple", data := .seq #[x, y] }) z TI TO .ellipsis := Heap.get?_push_of_some _ z5
  refine wpAny_bind (wpAny_setField_rec z6 (by simp) fun g7 z7 b7 => wpAny_setField_rec (show IsZip g7 z TI TO (rawInt g5.objs.size) from z7) (by simp) fun g8 z8 b8 => ?_)
  have z8 : IsZip g8 z TI TO (rawInt g5.objs.size) := z8
  have up : ∀ c o, c ≠ z → g5.get? c = some o → g8.get? c = some o := fun c o c1 q => b8.extBut _ _ c1 (b7.extBut _ _ c1 (Heap.get?_push_of_some _ q))
  have p8 : IsPair g8 g5.objs.size x y := b8.extBut _ _ (Nat.ne_of_gt zl) (b7.extBut _ _ (Nat.ne_of_gt zl) (Heap.get?_push_size _ rfl))
  rw [sz] at z8 p8
  refine wpAny_pure ⟨_, rfl, show Q (.ref g5.objs.size) _ from ?_⟩
  rw [sz]
  exact hQ g8 z8 (up _ _ D.TOz o5) (m1.at fun o q => up _ o D.i1z q) (m2.at fun o q => up _ o D.i2z q) p8 fun c o c1 c2 c3 c4 q => up c o c1 (kp c o c1 c2 c3 c4 q)
theorem zk_end {a b : Value} {Q : Fin → Shared → Prop} (hh : A.handled = none) (D : ZipApart z TI TO i1 i2 l1 l2) (hz : IsZip s.heap z TI TO .none) (hTI : IsPair s.heap TI (.ref i1) (.ref i2)) (hTO : IsPair s.heap TO a b) (h1 : ItK t1 s.heap i1 l1 k1) (h2 : ItK t2 s.heap i2 l2 k2) (hl1 : SqK t1 s.heap l1 xs) (hl2 : SqK t2 s.heap l2 ys) (hend : xs[k1]? = none ∨ ys[k2]? = none)
    (hE : ∀ h' e, (∀ c o, c ≠ z → c ≠ TO → c ≠ i1 → c ≠ i2 → s.heap.get? c = some o → h'.get? c = some o) → (∃ o, h'.get? e = some o ∧ o.cls = .type "StopIteration") → E (.ref e) { s with heap := h' }) : wpAny (model prog w) A (Builtin.«zip.__next__» ⟨[.ref z], []⟩) Q E s := by
  show wpAny _ _ (field (.ref z) 2 >>= _) _ _ _; refine wpAny_bind (wpAny_field hz rfl (x := .bool false) rfl (show wpAny _ _ (field (.ref z) 3 >>= _) _ _ _ from wpAny_bind (wpAny_field hz rfl (x := .ref TI) rfl (wpAny_bind (wpAny_seqItems hTI rfl ?_)))))
  show wpAny _ _ (Builtin.SmallTypes.ownedTupleIsFree (.ref z) >>= _) _ _ _; refine wpAny_bind ?_
  unfold Builtin.SmallTypes.ownedTupleIsFree; refine wpAny_bind (wpAny_field hz rfl (x := .none) rfl (wpAny_pure ?_)); simp only [if_true]
  refine wpAny_bind (wpAny_rule (wpAny_bind (wpAny_field hz rfl (x := .ref TO) rfl (wpAny_bind (wpAny_setField_rec hz (by simp) fun g1 z1 b1 => wpAny_bind ?_)))))
  have z1 : IsZip g1 z TI TO .ellipsis := z1; simp only [List.zipIdx_cons, List.zipIdx_nil, List.forIn_cons, List.forIn_nil]
  refine wpAny_bind (wpAny_bind (wpAny_onRaise (show wpAny _ _ (Builtin.SmallTypes.nextOf (.ref i1) >>= _) _ _ _ from ?_)))
  cases hx : xs[k1]? with
  | none =>
    refine wpAny_bind (nxK0 hh (h1.e b1.extBut D.i1z) (hl1.e b1.extBut D.l1z) hx fun g2 e b2 ⟨oe, he, ce⟩ => ?_)
    have z2 : IsZip g2 z TI TO .ellipsis := b2 _ _ D.i1z.symm z1
    have ez : e ≠ z := fun q => by subst q; rw [z2] at he; cases he; simp at ce
    exact wpAny_setField_rec z2 (by simp) fun g3 _ b3 => hE g3 e (fun c o c1 _ c3 _ q => b3.extBut _ _ c1 (b2 _ _ c3 (b1.extBut _ _ c1 q))) ⟨oe, b3.extBut _ _ ez he, ce⟩
  | some x =>
    have hy : ys[k2]? = none := by rcases hend with q | q; rw [hx] at q; cases q; exact q
    refine wpAny_bind (nxK (h1.e b1.extBut D.i1z) (hl1.e b1.extBut D.l1z) hx fun g2 n2 b2 => wpAny_pure ?_)
    have o2 : IsPair g2 TO a b := b2.extBut _ _ D.TOi1 (b1.extBut _ _ D.TOz hTO)
    refine wpAny_bind (wpAny_seqItems o2 rfl (wpAny_bind (wpAny_updateSeq_pair o2 fun g3 o3 b3 => wpAny_bind (wpAny_letGo (wpAny_pure ?_)))))
    refine wpAny_bind (wpAny_bind (wpAny_onRaise (show wpAny _ _ (Builtin.SmallTypes.nextOf (.ref i2) >>= _) _ _ _ from wpAny_bind (nxK0 hh (((h2.e b1.extBut D.i2z).e b2.extBut D.i12.symm).e b3.extBut D.TOi2.symm) (((hl2.e b1.extBut D.l2z).e b2.extBut D.l2i1).e b3.extBut D.l2TO) hy fun g4 e b4 ⟨oe, he, ce⟩ => ?_))))
    have z4 : IsZip g4 z TI TO .ellipsis := b4 _ _ D.i2z.symm (b3.extBut _ _ D.TOz.symm (b2.extBut _ _ D.i1z.symm z1))
    have ez : e ≠ z := fun q => by subst q; rw [z4] at he; cases he; simp at ce
    exact wpAny_setField_rec z4 (by simp) fun g5 _ b5 => hE g5 e (fun c o c1 c2 c3 c4 q => b5.extBut _ _ c1 (b4 _ _ c4 (b3.extBut _ _ c2 (b2.extBut _ _ c3 (b1.extBut _ _ c1 q))))) ⟨oe, b5.extBut _ _ ez he, ce⟩
end
end PD
set_option Elab.async false
set_option linter.all false
set_option maxRecDepth 100000
set_option maxHeartbeats 4000000
set_option autoImplicit false
namespace PD
open PySem L2
def kNm : Bool → String
  | true => "tuple_iterator"
  | false => "list_iterator"
abbrev zkA (t1 : Bool) (h : Heap) (l1 : Addr) : Heap := h.push { cls := .type (kNm t1), data := .fields #[.ref l1, .int 0 0] }
abbrev zkB (t1 t2 : Bool) (h : Heap) (l1 l2 : Addr) : Heap := (zkA t1 h l1).push { cls := .type (kNm t2), data := .fields #[.ref l2, .int 0 0] }
abbrev zkC (t1 t2 : Bool) (h : Heap) (l1 l2 : Addr) : Heap := (zkB t1 t2 h l1 l2).push { cls := .type "tuple", data := .seq #[.ref h.objs.size, .ref (zkA t1 h l1).objs.size] }
abbrev zkD (t1 t2 : Bool) (h : Heap) (l1 l2 : Addr) : Heap := (zkC t1 t2 h l1 l2).push { cls := .type "tuple", data := .seq #[.none, .none] }
abbrev zkE (t1 t2 : Bool) (h : Heap) (l1 l2 : Addr) : Heap := (zkD t1 t2 h l1 l2).push { cls := .type "zip", data := .fields #[.none, .bool false, .bool false, .ref (zkB t1 t2 h l1 l2).objs.size, .ref (zkC t1 t2 h l1 l2).objs.size] }
theorem zk_new (t1 t2 : Bool) (l1 l2 : Addr) (xs ys : Array Value) : Meets (Builtin.«zip.__new__» ⟨[.type "zip", .ref l1, .ref l2], []⟩) (fun _ R s => SqK t1 s.heap l1 xs ∧ SqK t2 s.heap l2 ys ∧ R (.ok (.ret (.ref (zkD t1 t2 s.heap l1 l2).objs.size))) { s with heap := zkE t1 t2 s.heap l1 l2 }) :=
  .of_wp fun prog w A R s h => by
    obtain ⟨hp, g, d, tk, os⟩ := s
    obtain ⟨hl1, hl2, h⟩ := h
    have hsub := sub_zip
    cases t1
    · have a1 : Heap.IsList (Shared.heap ⟨hp, g, d, tk, os⟩) l1 xs := hl1
      cases t2
      · have a2 : Heap.IsList (Shared.heap ⟨hp.push { cls := .type "list_iterator", data := .fields #[.ref l1, .int 0 0] }, g, d, tk, os⟩) l2 ys := Heap.IsList.push hl2 _
        wp_walk using wpAny_pyIter_list a1, wpAny_pyIter_list a2
        exact ⟨_, rfl, h⟩
      · have a2 : Heap.IsTuple (Shared.heap ⟨hp.push { cls := .type "list_iterator", data := .fields #[.ref l1, .int 0 0] }, g, d, tk, os⟩) l2 ys := Heap.IsTuple.push hl2 _
        wp_walk using wpAny_pyIter_list a1, wpAny_pyIter_tuple a2
        exact ⟨_, rfl, h⟩
    · have a1 : Heap.IsTuple (Shared.heap ⟨hp, g, d, tk, os⟩) l1 xs := hl1
      cases t2
      · have a2 : Heap.IsList (Shared.heap ⟨hp.push { cls := .type "tuple_iterator", data := .fields #[.ref l1, .int 0 0] }, g, d, tk, os⟩) l2 ys := Heap.IsList.push hl2 _
        wp_walk using wpAny_pyIter_tuple a1, wpAny_pyIter_list a2
        exact ⟨_, rfl, h⟩
      · have a2 : Heap.IsTuple (Shared.heap ⟨hp.push { cls := .type "tuple_iterator", data := .fields #[.ref l1, .int 0 0] }, g, d, tk, os⟩) l2 ys := Heap.IsTuple.push hl2 _
        wp_walk using wpAny_pyIter_tuple a1, wpAny_pyIter_tuple a2
        exact ⟨_, rfl, h⟩
section
variable {prog : Program} {w : World} {A : Around} {E : Value → Shared → Prop} {s : Shared} {t1 t2 : Bool}
theorem itk_new {t : Bool} {h : Heap} {it l : Addr} (e : h.get? it = some { cls := .type (kNm t), data := .fields #[.ref l, .int 0 0] }) : ItK t h it l 0 := by
  cases t
  · exact ⟨_, e, rfl, rfl⟩
  · exact ⟨_, e, rfl, rfl⟩
theorem zk_call {l1 l2 : Addr} {xs ys : Array Value} {Q : Value → Shared → Prop} (hl1 : SqK t1 s.heap l1 xs) (hl2 : SqK t2 s.heap l2 ys)
    (h : ∀ h', IsZip h' (s.heap.objs.size + 4) (s.heap.objs.size + 2) (s.heap.objs.size + 3) .none → IsPair h' (s.heap.objs.size + 2) (.ref s.heap.objs.size) (.ref (s.heap.objs.size + 1)) → IsPair h' (s.heap.objs.size + 3) .none .none → ItK t1 h' s.heap.objs.size l1 0 → ItK t2 h' (s.heap.objs.size + 1) l2 0 → (∀ c o, s.heap.get? c = some o → h'.get? c = some o) → Q (.ref (s.heap.objs.size + 4)) { s with heap := h' }) :
    wpAny (model prog w) A (call (.type "zip") [.ref l1, .ref l2]) Q E s := by
  refine callType_new F.called_zip (by decide) (F.typeCall_zip_2 _ _) (F.newCall_zip_2 _ _) (fun obj => F.args_object_init_3 obj _ _) F.entry_zip_new (zk_new t1 t2 l1 l2 xs ys) ⟨hl1, hl2, ?_⟩
  have e1 : (zkA t1 s.heap l1).objs.size = s.heap.objs.size + 1 := Heap.size_push ..
  have e2 : (zkB t1 t2 s.heap l1 l2).objs.size = s.heap.objs.size + 2 := by rw [Heap.size_push, e1]
  have e3 : (zkC t1 t2 s.heap l1 l2).objs.size = s.heap.objs.size + 3 := by rw [Heap.size_push, e2]
  have e4 : (zkD t1 t2 s.heap l1 l2).objs.size = s.heap.objs.size + 4 := by rw [Heap.size_push, e3]
  have g5 : (zkE t1 t2 s.heap l1 l2).get? (zkD t1 t2 s.heap l1 l2).objs.size = some _ := Heap.get?_push_size _ rfl
  have g4 : (zkE t1 t2 s.heap l1 l2).get? (zkC t1 t2 s.heap l1 l2).objs.size = some _ := Heap.get?_push_of_some _ (Heap.get?_push_size _ rfl)
  have g3 : (zkE t1 t2 s.heap l1 l2).get? (zkB t1 t2 s.heap l1 l2).objs.size = some _ := Heap.get?_push_of_some _ (Heap.get?_push_of_some _ (Heap.get?_push_size _ rfl))
  have g2 : (zkE t1 t2 s.heap l1 l2).get? (zkA t1 s.heap l1).objs.size = some _ := Heap.get?_push_of_some _ (Heap.get?_push_of_some _ (Heap.get?_push_of_some _ (Heap.get?_push_size _ rfl)))
  have g1 : (zkE t1 t2 s.heap l1 l2).get? s.heap.objs.size = some _ := Heap.get?_push_of_some _ (Heap.get?_push_of_some _ (Heap.get?_push_of_some _ (Heap.get?_push_of_some _ (Heap.get?_push_size _ rfl))))
  show _ ∧ _
  rw [e2, e3, e4] at g5; rw [e1, e2] at g3; rw [e3] at g4; rw [e1] at g2; rw [e4]
  exact ⟨⟨_, g5, rfl⟩, h _ g5 g3 g4 (itk_new g1) (itk_new g2) fun c o x => Heap.get?_push_of_some _ (Heap.get?_push_of_some _ (Heap.get?_push_of_some _ (Heap.get?_push_of_some _ (Heap.get?_push_of_some _ x))))⟩
variable {z TI TO i1 i2 l1 l2 : Addr} {k1 k2 : Nat} {xs ys : Array Value}
theorem zk_nx {x y a b : Value} {Q : Option Value → Shared → Prop} (D : ZipApart z TI TO i1 i2 l1 l2) (hz : IsZip s.heap z TI TO .none) (hTI : IsPair s.heap TI (.ref i1) (.ref i2)) (hTO : IsPair s.heap TO a b) (h1 : ItK t1 s.heap i1 l1 k1) (h2 : ItK t2 s.heap i2 l2 k2) (hl1 : SqK t1 s.heap l1 xs) (hl2 : SqK t2 s.heap l2 ys) (hx : xs[k1]? = some x) (hy : ys[k2]? = some y)
    (hQ : ∀ h', IsZip h' z TI TO (rawInt s.heap.objs.size) → IsPair h' TO x y → ItK t1 h' i1 l1 (k1 + 1) → ItK t2 h' i2 l2 (k2 + 1) → IsPair h' s.heap.objs.size x y → (∀ c o, c ≠ z → c ≠ TO → c ≠ i1 → c ≠ i2 → s.heap.get? c = some o → h'.get? c = some o) → Q (some (.ref s.heap.objs.size)) { s with heap := h' }) : wpAny (model prog w) A (pyNext (.ref z)) Q E s := by
  have hT : s.TypeIs (.ref z) "zip" := ⟨_, hz, rfl⟩
  unfold pyNext; exact wpAny_bind (wpAny_attempt (wpAny_callSpecial?_slot (name := Str.ofString "__next__") hT F.slot_zip_next (wpAny_call_entry F.slot_zip_next hT F.entry_zip_next (zk_item D hz hTI hTO h1 h2 hl1 hl2 hx hy fun h' a1 a2 a3 a4 a5 a6 => wpAny_pure (hQ h' a1 a2 a3 a4 a5 a6)) (F.args_zip_next_1 _))))
theorem zk_nx0 {a b : Value} {Q : Option Value → Shared → Prop} (hh : A.handled = none) (D : ZipApart z TI TO i1 i2 l1 l2) (hz : IsZip s.heap z TI TO .none) (hTI : IsPair s.heap TI (.ref i1) (.ref i2)) (hTO : IsPair s.heap TO a b) (h1 : ItK t1 s.heap i1 l1 k1) (h2 : ItK t2 s.heap i2 l2 k2) (hl1 : SqK t1 s.heap l1 xs) (hl2 : SqK t2 s.heap l2 ys) (hend : xs[k1]? = none ∨ ys[k2]? = none)
    (hQ : ∀ h', (∀ c o, c ≠ z → c ≠ TO → c ≠ i1 → c ≠ i2 → s.heap.get? c = some o → h'.get? c = some o) → Q none { s with heap := h' }) : wpAny (model prog w) A (pyNext (.ref z)) Q E s := by
  have hT : s.TypeIs (.ref z) "zip" := ⟨_, hz, rfl⟩
  unfold pyNext; refine wpAny_bind (wpAny_attempt (wpAny_callSpecial?_slot (name := Str.ofString "__next__") hT F.slot_zip_next (wpAny_call_entry F.slot_zip_next hT F.entry_zip_next (zk_end hh D hz hTI hTO h1 h2 hl1 hl2 hend fun h' e hk ⟨o, ho, hc⟩ => ?_) (F.args_zip_next_1 _))))
  exact wpAny_bind (wpAny_isInstance (T := "StopIteration") (b := true) ⟨o, ho, hc⟩ isSubtype_stop (wpAny_pure (hQ _ hk)))
end
end PD
set_option Elab.async false
set_option linter.all false
set_option maxRecDepth 100000
set_option maxHeartbeats 4000000
set_option autoImplicit false
namespace PD
open PySem L2
def SqX (t : Bool) (K : PySem.W.Frag) (H : Hp) (a : Addr) (xs : List V) : Prop := match t with
  | true => SqT K H a xs
  | false => SqL K H a xs
theorem inv_sq {X : Cx} {pins : List (Addr × Obj)} {σ : St} {H : Hp} {s : Shared} {t : Bool} {a : Addr} {xs : List V} (I : Inv X pins σ H s) (h : SqX t X.K H a xs) : ∃ its : List Value, Vals xs its ∧ SqK t s.heap a its.toArray ∧ a < s.heap.objs.size := by
  cases t
  · obtain ⟨its, r, p, _⟩ := I.list h
    exact ⟨its, r, p.isList, p.lt⟩
  · obtain ⟨its, r, p, _⟩ := I.tuple h
    obtain ⟨o, ho, _⟩ := id p
    exact ⟨its, r, p, Heap.lt_size ho⟩
theorem sq_inj {X : Cx} {pins : List (Addr × Obj)} {σ : St} {H : Hp} {s : Shared} {t : Bool} {a : Addr} {xs ys : List V} (I : Inv X pins σ H s) (h : SqX t X.K H a xs) (h' : SqX t X.K H a ys) : xs = ys := by
  cases t
  · exact I.list_inj h h'
  · exact I.tuple_inj h h'
def ItzK (t1 t2 : Bool) (K : PySem.W.Frag) (a b : Addr) : It :=
  ⟨fun i H => ∃ (xs ys : List V) (x y : V), SqX t1 K H a xs ∧ SqX t2 K H b ys ∧ xs[i]? = some x ∧ ys[i]? = some y,
    fun i H v H' => ∃ T x y, v = .ref T ∧ H T = none ∧ H' = upd H T (.tup [x, y]) ∧ (∀ xs, SqX t1 K H a xs → xs[i]? = some x) ∧ ∀ ys, SqX t2 K H b ys → ys[i]? = some y,
    fun i H => ∃ xs ys : List V, SqX t1 K H a xs ∧ SqX t2 K H b ys ∧ (xs.length ≤ i ∨ ys.length ≤ i)⟩
theorem turn_zk {P : Program} {w : World} {K : PySem.W.Frag} {elts : List Expr} {kk : Nat} {tpos : Pos} {t1 t2 : Bool} {a b z TI TO i1 i2 : Addr} (D : ZipApart z TI TO i1 i2 a b) :
    Turn P w K (.Tuple elts kk tpos) (ItzK t1 t2 K a b) [z, TI, TO, i1, i2] z (fun i h => IsZip h z TI TO .none ∧ IsPair h TI (.ref i1) (.ref i2) ∧ (∃ x y, IsPair h TO x y) ∧ ItK t1 h i1 a i ∧ ItK t2 h i2 b i) where
  mem := by simp
  obj := fun i h ⟨hz, hTI, ⟨x, y, hTO⟩, n1, n2⟩ c hc => by
    obtain ⟨p1, fs1, e1, d1⟩ := n1.ob
    obtain ⟨p2, fs2, e2, d2⟩ := n2.ob
    have hc : c = z ∨ c = TI ∨ c = TO ∨ c = i1 ∨ c = i2 := by simpa using hc
    rcases hc with rfl | rfl | rfl | rfl | rfl
    · exact ⟨_, hz, fun v q => nomatch q⟩
    · exact ⟨_, hTI, fun v q => nomatch q⟩
    · exact ⟨_, hTO, fun v q => nomatch q⟩
    · exact ⟨p1, e1, fun v q => by rw [d1] at q; cases q⟩
    · exact ⟨p2, e2, fun v q => by rw [d2] at q; cases q⟩
  keep := fun i h h' ⟨hz, hTI, ⟨x, y, hTO⟩, n1, n2⟩ k => ⟨k z (by simp) _ hz, k TI (by simp) _ hTI, ⟨x, y, k TO (by simp) _ hTO⟩, n1.at fun o q => k i1 (by simp) o q, n2.at fun o q => k i2 (by simp) o q⟩
  item := by
    intro X hP hw hK hc i pins s σ H E I hf st hg
    subst hP hw hK
    obtain ⟨hz, hTI, ⟨x0, y0, hTO⟩, n1, n2⟩ := st
    obtain ⟨xs, ys, x, y, qx, qy, hx, hy⟩ := hg
    obtain ⟨us, rv, p, _⟩ := inv_sq I qx
    obtain ⟨us2, rv2, p2, _⟩ := inv_sq I qy
    obtain ⟨u, hu, ru⟩ := rv.get hx
    obtain ⟨u2, hu2, ru2⟩ := rv2.get hy
    have zl : z < s.heap.objs.size := Heap.lt_size hz
    refine zk_nx D hz hTI hTO n1 n2 p p2 (x := u) (y := u2) (by simpa using hu) (by simpa using hu2) fun g z1 o1 m1 m2 hT hk => ⟨_, rfl, wpAny_letOwnedTupleGo_zip (s := { s with heap := g }) z1 fun g2 z2 sb => ?_⟩
    have hT2 : g2.get? s.heap.objs.size = some { cls := .type "tuple", data := .seq #[u, u2] } := (sb.2 _ (Nat.ne_of_gt zl)).trans hT
    have nw : ObjOk X.prog X.w (upd H s.heap.objs.size (.tup [x, y])) g2 s.heap.objs.size (.tup [x, y]) := ⟨(by decide : 2 ≤ sizeLine), [u, u2], .cons ru (.cons ru2 .nil), ⟨_, hT2, rfl, _, rfl⟩⟩
    have I1 : Inv X pins σ (upd H s.heap.objs.size (.tup [x, y])) { s with heap := g2 } := I.turnedNew (t' := s.toks) (ch := [z, TI, TO, i1, i2]) (fun c o hb q => (sb.2 c (fun q' => hb (by simp [q']))).trans (hk c o (fun q' => hb (by simp [q'])) (fun q' => hb (by simp [q'])) (fun q' => hb (by simp [q'])) (fun q' => hb (by simp [q'])) q)) hf (Nat.le_refl _) nw
    refine ⟨.ref s.heap.objs.size, _, I1, rfl, ⟨_, x, y, rfl, I.hok.fresh (Nat.le_refl _), rfl, fun l hl => by rw [sq_inj I hl qx]; exact hx, fun l hl => by rw [sq_inj I hl qy]; exact hy⟩, ⟨z2, ?_, ⟨u, u2, (sb.2 _ D.TOz).trans o1⟩, m1.at fun o q => (sb.2 _ D.i1z).trans q, m2.at fun o q => (sb.2 _ D.i2z).trans q⟩, fun c hcm => ?_⟩
    · exact (sb.2 _ D.TIz).trans (hk _ _ D.TIz D.TITO D.TIi1 D.TIi2 hTI)
    · have hlt : c < s.heap.objs.size := by
        obtain ⟨p1, fs1, e1, _⟩ := n1.ob
        obtain ⟨p2, fs2, e2, _⟩ := n2.ob
        have hcm : c = z ∨ c = TI ∨ c = TO ∨ c = i1 ∨ c = i2 := by simpa using hcm
        rcases hcm with rfl | rfl | rfl | rfl | rfl
        · exact zl
        · exact Heap.lt_size hTI
        · exact Heap.lt_size hTO
        · exact Heap.lt_size e1
        · exact Heap.lt_size e2
      rw [upd_ne (Nat.ne_of_lt hlt)]
      exact (hf c hcm).1
  done := by
    intro X hP hw hK hc i pins s σ H E I hf st hg
    subst hP hw hK
    obtain ⟨hz, hTI, ⟨x0, y0, hTO⟩, n1, n2⟩ := st
    obtain ⟨xs, ys, qx, qy, hend⟩ := hg
    obtain ⟨us, rv, p, _⟩ := inv_sq I qx
    obtain ⟨us2, rv2, p2, _⟩ := inv_sq I qy
    have e1 := rv.length
    have e2 := rv2.length
    refine zk_nx0 (I.ok.hd hc) D hz hTI hTO n1 n2 p p2 ?_ fun g hk => ⟨rfl, I.turnedL (t' := s.toks) (ch := [z, TI, TO, i1, i2]) (fun c o hb q => hk c o (fun q' => hb (by simp [q'])) (fun q' => hb (by simp [q'])) (fun q' => hb (by simp [q'])) (fun q' => hb (by simp [q'])) q) hf⟩
    rcases hend with q | q
    · exact .inl (by simp; omega)
    · exact .inr (by simp; omega)
  self := fun A i s Q E st h => wpAny_pyIter_zip st.1 h
def iZipK (K : PySem.W.Frag) (ta : TA) : TI := fun σ H R => ta σ H fun vs H1 => ∃ t1 t2 a b xs ys, vs = [.ref a, .ref b] ∧ SqX t1 K H1 a xs ∧ SqX t2 K H1 b ys ∧ R (ItzK t1 t2 K a b) H1
theorem pi_zipK {X : Cx} {e e2 : Expr} {ta : TA} {p pos tpos : Pos} {elts : List Expr} {kk : Nat} (hg : Gl X "zip") (hm : X.mg "zip" = none) (ha : PA X [e, e2] ta) (hs : starEach [e, e2] X.env = (false, eval e X.env) :: starEach [e2] X.env := by rfl) (hpl : (backTo pos (starEach [e2] X.env)).any (·.1) = false := by rfl) : PI X (.Tuple elts kk tpos) (.Call (.Name "zip" p) [e, e2] [] pos) (iZipK X.K ta) := by
  refine ⟨fun pins s σ H R I h => PyProof.Rows.Call_ (ld_blt I hg hm PyProof.Rows.boot_zip (PyProof.Rows.callWith_type1 (thn (ha.run pos pins s σ H _ I h) fun us s1 ⟨vs, H1, I1, r1, t1, t2, a, b, xs, ys, ex, qx, qy, q⟩ => ?_) hs hpl))⟩
  subst ex
  cases r1 with
  | cons r rr =>
    cases rr with
    | cons r' rr =>
      cases rr; cases r; cases r'
      obtain ⟨its, rv, p1, la⟩ := inv_sq I1 qx
      obtain ⟨its2, rv2, p2, lb⟩ := inv_sq I1 qy
      refine zk_call p1 p2 fun g hz hTI hTO n1 n2 hk => wpAny_pyIter_zip hz ?_
      have I2 : Inv X pins σ H1 { s1 with heap := g } := I1.kept (t' := s1.toks) hk
      refine ⟨s1.heap.objs.size + 4, [s1.heap.objs.size + 4, s1.heap.objs.size + 2, s1.heap.objs.size + 3, s1.heap.objs.size, s1.heap.objs.size + 1], _, _, H1, rfl, I2, turn_zk (PySem.W.ktu_apart s1.heap.objs.size a b la lb), ⟨hz, hTI, ⟨_, _, hTO⟩, n1, n2⟩, fun c hc => ?_, q⟩
      have hle : s1.heap.objs.size ≤ c := by
        simp only [List.mem_cons, List.not_mem_nil, or_false] at hc
        rcases hc with z | z | z | z | z <;> rw [z]
        · exact Nat.le_add_right _ _
        · exact Nat.le_add_right _ _
        · exact Nat.le_add_right _ _
        · exact Nat.le_refl _
        · exact Nat.le_add_right _ _
      exact I1.fpOk hle (I1.hok.fresh hle)
section
variable {X : Cx} {W : WX} {sc : Scope} {N : List Str} {e e2 : Expr} {pos p : Pos} {f g : DF}
theorem itd_zk {K : PySem.W.Frag} {G : Gh} {H : Hp} {t1 t2 : Bool} {a b : Addr} {xs ys : List V} {ds es : List PyData} {fr : Bool} (sq : ∀ G2 H2, Le G H G2 H2 → SqX t1 K H2 a xs) (hd : DnA K (rg G fr) H xs ds) (sq' : ∀ G2 H2, Le G H G2 H2 → SqX t2 K H2 b ys) (hd' : DnA K (rg G fr) H ys es) : ItD K G H (ItzK t1 t2 K a b) (zipD ds es) fr := by
  have hl := hd.length
  have hl' := hd'.length
  have hl2 : (zipD ds es).length = min xs.length ys.length := by unfold zipD; simp [hl, hl']
  refine ⟨fun i G2 H2 hi e => ?_, fun i G2 H2 σ Γ v H3 hi e S y => ?_, fun G2 H2 e => ⟨xs, ys, sq G2 H2 e, sq' G2 H2 e, by rw [hl2]; omega⟩⟩
  · rw [hl2] at hi
    exact ⟨xs, ys, xs[i]'(by omega), ys[i]'(by omega), sq G2 H2 e, sq' G2 H2 e, by simp, by simp⟩
  · obtain ⟨T, x, z, rfl, hT, rfl, hy, hy'⟩ := y
    obtain ⟨d, h1, h2⟩ := (e.dna hd).get (hy xs (sq G2 _ e))
    obtain ⟨d', h1', h2'⟩ := (e.dna hd').get (hy' ys (sq' G2 _ e))
    obtain ⟨G3, e3, S3, h3⟩ := sta_pair S hT h2 h2'
    refine ⟨G3, _, ?_, e3, S3, h3⟩
    unfold zipD
    rw [List.getElem?_zipWith, h1, h1']
theorem seqA_sq {G : Gh} {H : Hp} {σ : St} {v : V} {x : AV} {y : List PyData × Bool} (h : seqA x = some y) (w : Wf G H) (hv : AVok X.K G H σ v x) : ∃ (t : Bool) (a : Addr) (xs : List V), v = .ref a ∧ (∀ G2 H2, Le G H G2 H2 → SqX t X.K H2 a xs) ∧ SqX t X.K H a xs ∧ DnA X.K (rg G y.2) H xs y.1 := by
  unfold seqA at h
  split at h
  · rename_i fr ds
    cases h
    obtain ⟨l, xs, rfl, g1, g2⟩ := dn_list hv
    exact ⟨false, l, xs, rfl, fun G2 H2 e => ((g1.mono (e.rgl fr)).mono (e.w.rgl fr)).sq, (g1.mono (w.rgl fr)).sq, g2⟩
  · rename_i fr ds
    cases h
    obtain ⟨l, xs, rfl, g1, g2⟩ := dn_tupleH hv
    exact ⟨true, l, xs, rfl, fun G2 H2 e => SqT.of (e.t _ _ g1), SqT.of g1, g2⟩
  · cases h
def iZipX (f g : DF) : DI := fun Γ => (f Γ).bind fun x => (g x.2).bind fun y => (R.ofO (seqA x.1)).bind fun a => (R.ofO (seqA y.1)).bind fun b => .val ((zipD a.1 b.1, a.2 && b.2), y.2)
theorem ci_zipX (C : Cf0 X W sc N) {elts : List Expr} {kk : Nat} {tpos : Pos} (hg : glB sc "zip" = true) (hm : X.mg "zip" = none) (ha : CE X W e f) (hb : CE X W e2 g) (hs : starEach [e, e2] X.env = (false, eval e X.env) :: starEach [e2] X.env := by rfl) (hs2 : starEach [e2] X.env = (false, eval e2 X.env) :: starEach [] X.env := by rfl)
    (hpl : (backTo pos (starEach [e2] X.env)).any (·.1) = false := by rfl) : CI X W (.Tuple elts kk tpos) (.Call (.Name "zip" p) [e, e2] [] pos) (iZipX f g) := fun Γ =>
  pi_imp (pi_zipK (C.gl hg) hm (pa_cons (ha Γ) (pa_cons (pe_any fun x : AV × List Sl => hb x.2) pa_nil hs2) hs) hs hpl) fun σ H Q ⟨G, S, q⟩ => ⟨G, S, (Pst.bind q).imp fun x G1 H1 e1 q1 v S1 hv => ⟨x, G1, S1, (Pst.bind q1).imp fun y G2 H2 e2 q2 u S2 hu => by
    obtain ⟨a, ha', q2⟩ := Pst.ofO q2
    obtain ⟨b, hb', q2⟩ := Pst.ofO q2
    have q2 : ∀ J, Sta X.K G2 H2 σ y.2 → ItD X.K G2 H2 J (zipD a.1 b.1) (a.2 && b.2) → Q J H2 := q2 G2 H2 (Ext.rf S2.w)
    obtain ⟨t1, l1, xs, rfl, s1, s1', d1⟩ := seqA_sq ha' S2.w (hv.ext e2)
    obtain ⟨t2, l2, ys, rfl, s2, s2', d2⟩ := seqA_sq hb' S2.w hu
    exact ⟨t1, t2, l1, l2, xs, ys, rfl, s1', s2', q2 _ S2 (itd_zk s1 (d1.mono (rg_and1 G2 a.2 b.2) (TupLe.rf _)) s2 (d2.mono (rg_and2 G2 a.2 b.2) (TupLe.rf _)))⟩⟩⟩
end
end PD
set_option Elab.async false
set_option linter.all false
set_option maxRecDepth 100000
set_option maxHeartbeats 4000000
set_option autoImplicit false
namespace PD
open PySem L2
end PD
set_option Elab.async false
set_option linter.all false
set_option maxRecDepth 100000
set_option maxHeartbeats 4000000
set_option autoImplicit false
namespace PD
open PySem L2
section
variable {X : Cx} {W : WX} {sc : Scope} {N : List Str} {e : Expr} {es : List Expr} {pos p : Pos} {x : Str} {dvs : List V} {dds : List PyData} {m : List Ar → R (Rs × List Sl)}
def CNum (X : Cx) (es : List Expr) (cs : List Int) : Prop := PA X es (fun _ H Q => Q (cs.map V.int) H)
theorem cnum_nil : CNum X [] [] := ⟨fun pos pins s σ H Q I h => (pa_nil : PA X [] tNil).run pos pins s σ H Q I h⟩
def arN (c : Cl) (cs : List Int) (dds : List PyData) : List Ar := .c c :: ((cs.map PyData.int) ++ dds).map Ar.d
def xCallN (m : List Ar → R (Rs × List Sl)) (dds : List PyData) (n0 : DC) (cs : List Int) : DX := fun Γ => (n0 Γ).bind fun z => (R.req z.1.fl).bind fun _ => ((m (arN z.1 cs dds)).atX z.2).bind fun r => .val (r.1, z.2)
theorem args_new {K : PySem.W.Frag} {H2 : Hp} {v : V} {c : Cl} {cs : List Int} {fp : List Addr} {B : Hp} (hc : c.ok K (RN B) H2 v fp) (hB : ∀ a o, B a = some o → H2 a = some o ∧ a ∉ fp) (al : ∀ p ∈ fp, H2 p ≠ none) (hdv : DnA K (fun a o => H2 a = some o ∧ a ∉ fp) H2 dvs dds) :
    ArgsU K H2 (v :: (cs.map V.int ++ dvs)) (arN c cs dds) (fun i => if i = 0 then fp else []) fp B where
  len := by
    have := hdv.length
    simp [arN, this]
  dat := fun i y hy => by
    cases i with
    | zero => simp [arN] at hy
    | succ i =>
      have hd : DnA K (fun a o => H2 a = some o ∧ a ∉ fp) H2 (cs.map V.int ++ dvs) (cs.map PyData.int ++ dds) := (ints_dna cs).append hdv
      have hy : ((cs.map PyData.int ++ dds).map Ar.d)[i]? = some (.d y) := by simpa [arN] using hy
      obtain ⟨w, h1, h2⟩ := dna_at hd hy
      exact ⟨w, by simpa using h1, h2⟩
  cel := fun i c' hy => by
    cases i with
    | zero =>
      have : c = c' := by simpa [arN] using hy
      subst this
      exact ⟨v, rfl, by simpa using hc⟩
    | succ i =>
      have hy : ((cs.map PyData.int ++ dds).map Ar.d)[i]? = some (.c c') := by simpa [arN] using hy
      rw [List.getElem?_map] at hy
      cases h : (cs.map PyData.int ++ dds)[i]? with
      | none => rw [h] at hy; cases hy
      | some z => rw [h] at hy; cases hy
  emp := fun i h => by
    cases i with
    | zero => exact absurd rfl (h c)
    | succ i => simp
  all := fun i q hq => by
    cases i with
    | zero => simpa using hq
    | succ i => simp at hq
  al := al
  dj := fun i j q hi hj => by
    cases i with
    | zero => cases j with
      | zero => rfl
      | succ j => simp at hj
    | succ i => simp at hi
  nat := fun i y hy => by
    cases i with
    | zero => simp [arN] at hy
    | succ i =>
      have hy : ((cs.map PyData.int ++ dds).map Ar.d)[i]? = some (.n y) := by simpa [arN] using hy
      rw [List.getElem?_map] at hy
      cases h : (cs.map PyData.int ++ dds)[i]? with
      | none => rw [h] at hy; cases hy
      | some z => rw [h] at hy; cases hy
  bok := hB
theorem cx_callN (C : Cf0 X W sc N) {n0 : DC} {cs : List Int} (hc : Clee X x dvs (spU X.K X.mg m)) (hg : glB sc x = true) (hdv : ∀ G H, DnA X.K G H dvs dds) (h0 : CC X W e n0) (ha : CNum X es cs)
    (hdb : (x == ("__debug__" : Str)) = false := by decide +kernel) (he : starEach (e :: es) X.env = (false, eval e X.env) :: starEach es X.env := by rfl) (hpl : (backTo pos (starEach es X.env)).any (·.1) = false := by rfl) : CX X W (.Call (.Name x p) (e :: es) [] pos) (xCallN m dds n0 cs) := fun Γ => by
  obtain ⟨k', f, fd, ps, dss, F, hr, hm, hk, hb, hd⟩ := hc
  refine pe_imp (pe_callSD (E := fun σ cls d H => W cls d σ H) F hr (C.gl hg) hm hk hb hd (fun σ => passAt C.tk σ) (pa_cons (h0 Γ) ha he) hdb he hpl) fun σ H Q ⟨G, S, q⟩ => ⟨G, S, (Pst.bind q).imp fun z G1 H1 e1 p1 v H2 S1 nc => ?_⟩
  obtain ⟨hfl, p1⟩ := Pst.req p1
  obtain ⟨fp, n1, n2, n3⟩ := nc
  have hsub : ∀ a o, H1 a = some o → H2 a = some o ∧ a ∉ fp := fun a o h => by
    have : a ∉ fp := fun hf => by rw [(n2 a hf).1] at h; cases h
    exact ⟨by rw [n1 a this]; exact h, this⟩
  have hno : ∀ a, H2 a = none → H1 a = none := fun a h => by
    cases h1 : H1 a with
    | none => rfl
    | some o => rw [(hsub a o h1).1] at h; cases h
  refine ⟨_, _, _, G1.N, args_new (cs := cs) n3 (fun a o h => hsub a o (S1.w.new a o h).1) (fun p hp => (n2 p hp).2) (hdv _ _), ?_⟩
  cases hm' : m (arN z.1 cs dds) with
  | bad => rw [hm'] at p1; exact p1
  | exc y =>
    rw [hm'] at p1
    intro H' N' F' Cl' d P g1 g2
    obtain ⟨G', S', e', l⟩ := call_end S1 (fun a o h => P.keep a o (hsub a o h).1 (hsub a o h).2) (fun a o h => ⟨(P.new a o h).1, (P.new a o h).2.imp (hno a) id⟩)
    refine p1 G' H' σ Cl' d e' S' g1 ?_
    rcases g2 with ⟨a, fs, q1, q2, q3, q4⟩ | q
    · exact .inl ⟨a, fs, q1, l _ _ q2, q3, q4.mono l (TupLe.rf _)⟩
    · exact .inr q
  | val r =>
    rw [hm'] at p1
    intro H' N' F' P
    obtain ⟨G', S', e', l⟩ := call_end S1 (fun a o h => P.keep a o (hsub a o h).1 (hsub a o h).2) (fun a o h => ⟨(P.new a o h).1, (P.new a o h).2.imp (hno a) id⟩)
    have q := p1 G' H' e'
    obtain ⟨r1, r2⟩ := r
    cases r1 with
    | d y => exact fun w hw => q w S' (hw.mono l (TupLe.rf _))
    | c y => exact fun w H3 ⟨fp', k1, k2, k3⟩ => q w H3 S' ⟨fp', k1, k2, Cl.mono k3 l (fun _ _ => rfl) (TupLe.rf _)⟩
def nX (f : DX) : DC := fun Γ => (f Γ).bind fun z => (R.ofO (rsC z.1)).bind fun c => .val (c, z.2)
theorem cc_x {f : DX} (h : CX X W e f) : CC X W e (nX f) := fun Γ => pe_imp (h Γ) fun σ H Q ⟨G, S, q⟩ => ⟨G, S, (Pst.bind q).imp fun z G1 H1 e1 p1 => by
  obtain ⟨r, Γ1⟩ := z
  cases r with
  | d y => exact p1.elim
  | c c =>
    intro v H2 S1 nc
    exact p1 G1 H1 (Ext.rf S1.w) v H2 S1 nc⟩
end
end PD
set_option Elab.async false
set_option linter.all false
set_option maxRecDepth 100000
set_option maxHeartbeats 4000000
set_option autoImplicit false
namespace PD
open PySem L2
section
variable {X : Cx} {W : WX} {sc : Scope} {N : List Str} {e : Expr} {pos p1 : Pos} {x : Str}
end
end PD
set_option Elab.async false
set_option linter.all false
set_option maxRecDepth 100000
set_option maxHeartbeats 4000000
set_option autoImplicit false
namespace PD
open PySem L2
inductive ArsOk (K : PySem.W.Frag) (H : Hp) (R : Rg) (B : Hp) : List V → List Ar → Prop
  | nil : ArsOk K H R B [] []
  | d {v : V} {vs : List V} {x : PyData} {as : List Ar} : Dn K R H v x → ArsOk K H R B vs as → ArsOk K H R B (v :: vs) (.d x :: as)
  | n {v : V} {vs : List V} {x : PyData} {as : List Ar} : Dn K (RN B) H v x → ArsOk K H R B vs as → ArsOk K H R B (v :: vs) (.n x :: as)
section
variable {K : PySem.W.Frag} {H : Hp} {R : Rg} {B : Hp}
theorem ArsOk.length : ∀ {vs : List V} {as : List Ar}, ArsOk K H R B vs as → vs.length = as.length
  | _, _, .nil => rfl
  | _, _, .d _ r => by simp [r.length]
  | _, _, .n _ r => by simp [r.length]
theorem ArsOk.dat : ∀ {vs : List V} {as : List Ar} {i : Nat} {x : PyData}, ArsOk K H R B vs as → as[i]? = some (.d x) → ∃ v, vs[i]? = some v ∧ Dn K R H v x
  | _, _, _, _, .nil, e => by simp at e
  | _, _, 0, _, .d h _, e => by simp at e; subst e; exact ⟨_, rfl, h⟩
  | _, _, 0, _, .n h _, e => by simp at e
  | _, _, i + 1, x, .d _ r, e => by obtain ⟨v, h1, h2⟩ := r.dat (i := i) (x := x) (by simpa using e); exact ⟨v, by simpa using h1, h2⟩
  | _, _, i + 1, x, .n _ r, e => by obtain ⟨v, h1, h2⟩ := r.dat (i := i) (x := x) (by simpa using e); exact ⟨v, by simpa using h1, h2⟩
theorem ArsOk.nat : ∀ {vs : List V} {as : List Ar} {i : Nat} {x : PyData}, ArsOk K H R B vs as → as[i]? = some (.n x) → ∃ v, vs[i]? = some v ∧ Dn K (RN B) H v x
  | _, _, _, _, .nil, e => by simp at e
  | _, _, 0, _, .n h _, e => by simp at e; subst e; exact ⟨_, rfl, h⟩
  | _, _, 0, _, .d h _, e => by simp at e
  | _, _, i + 1, x, .d _ r, e => by obtain ⟨v, h1, h2⟩ := r.nat (i := i) (x := x) (by simpa using e); exact ⟨v, by simpa using h1, h2⟩
  | _, _, i + 1, x, .n _ r, e => by obtain ⟨v, h1, h2⟩ := r.nat (i := i) (x := x) (by simpa using e); exact ⟨v, by simpa using h1, h2⟩
theorem ArsOk.app : ∀ {vs : List V} {as : List Ar} {ws : List V} {bs : List Ar}, ArsOk K H R B vs as → ArsOk K H R B ws bs → ArsOk K H R B (vs ++ ws) (as ++ bs)
  | _, _, _, _, .nil, b => b
  | _, _, _, _, .d h r, b => .d h (r.app b)
  | _, _, _, _, .n h r, b => .n h (r.app b)
theorem ArsOk.split : ∀ {v1 v2 : List V} {as : List Ar}, ArsOk K H R B (v1 ++ v2) as → ArsOk K H R B v1 (as.take v1.length) ∧ ArsOk K H R B v2 (as.drop v1.length)
  | [], v2, as, h => ⟨.nil, h⟩
  | v :: v1, v2, _, .d h r => by obtain ⟨q1, q2⟩ := ArsOk.split (v1 := v1) r; exact ⟨.d h q1, q2⟩
  | v :: v1, v2, _, .n h r => by obtain ⟨q1, q2⟩ := ArsOk.split (v1 := v1) r; exact ⟨.n h q1, q2⟩
end
def rdAs (Γ : List Sl) (i : Option Nat) : List Bool → List AV → Option (List Ar)
  | _, [] => some []
  | true :: ms, .d fr x :: as => if fr || flat x then (rdAs Γ i ms as).map (.n x :: ·) else none
  | true :: _, .s _ :: _ => none
  | false :: ms, .d _ x :: as => (rdAs Γ i ms as).map (.d x :: ·)
  | false :: ms, .s j :: as => if some j = i then none else (rdW Γ j).bind fun x => (rdAs Γ i ms as).map (.d x :: ·)
  | [], .d _ x :: as => (rdAs Γ i [] as).map (.d x :: ·)
  | [], .s j :: as => if some j = i then none else (rdW Γ j).bind fun x => (rdAs Γ i [] as).map (.d x :: ·)
section
variable {X : Cx} {W : WX} {sc : Scope} {N : List Str} {x : Str} {e : Expr} {es : List Expr} {p pos : Pos} {k : DA} {dvs : List V} {dds : List PyData} {m : List Ar → R (Rs × List Sl)}
def xCallM (m : List Ar → R (Rs × List Sl)) (ms : List Bool) (dds : List PyData) (k : DA) : DX := fun Γ => (k Γ).bind fun z => (R.ofO (rdAs z.2 none ms z.1)).bind fun ars => ((m (ars ++ dds.map Ar.d)).atX z.2).bind fun r => .val (r.1, z.2)
end
end PD
set_option Elab.async false
set_option linter.all false
set_option maxRecDepth 100000
set_option maxHeartbeats 4000000
set_option autoImplicit false
namespace PD
open PySem L2
section
variable {X : Cx} {W : WX} {sc : Scope} {N : List Str} {a b e : Expr} {pos : Pos} {f g : DF}
end
end PD
set_option Elab.async false
set_option linter.all false
set_option maxRecDepth 100000
set_option maxHeartbeats 4000000
set_option autoImplicit false
namespace PD
open PySem L2
section
variable {X : Cx} {W : WX} {sc : Scope} {N : List Str} {pos : Pos}
end
end PD
set_option Elab.async false
set_option linter.all false
set_option maxRecDepth 100000
set_option maxHeartbeats 4000000
set_option autoImplicit false
namespace PD
open PySem PySem.Spec L2
open PyProof.Rows (AllBare)
section
variable {X : Cx} {pins : List (Addr × Obj)} {σ : St} {H : Hp} {sI s' : Shared} {B : Heap}
end
section
variable {X : Cx} {x n : Str} {c : Value} {i : Nat} {body suite : List Stmt} {b0 : Stmt} {np pos pos2 : Pos} {tb : WX → TS} {ts : Addr → TS} {Wout : WX}
end
end PD
set_option Elab.async false
set_option linter.all false
set_option maxRecDepth 100000
set_option maxHeartbeats 4000000
set_option autoImplicit false
namespace PD
open PySem PySem.Spec L2
open PyProof.Rows (AllBare)
def exIs (c d : Str) : Bool := decide (c = d) || (decide (d = "HuntError") || decide (d = "ValueError"))
def xfb (K : PySem.W.Frag) (c : Str) : Bool :=
  (PySem.W.clsIn K (He.ga K c)).isSome && (decide (PySem.W.findIn K (.ref (He.ga K c)) "__getattribute__" = some (some (.builtin "BaseException.__getattribute__"))) &&
    (decide (PySem.W.findIn K (.ref (He.ga K c)) "__getattr__" = some none) && (decide (PySem.W.subIn K (.ref (He.ga K c)) (.type "BaseException") = some true) &&
      (PySem.W.hasDictIn K (He.ga K c) && (decide (PySem.W.findIn K (.ref (He.ga K c)) "__class__" = some (some (.builtin "object.__class__"))) &&
        (decide (PySem.W.specialIn K (.builtin "object.__class__") "__get__" = some (some (.builtin "getset_descriptor.__get__"))) &&
          (decide (PySem.W.takesIn K (.builtin "object.__class__") = some true) && (decide (PySem.W.mroIn K (He.ga K c) (.type "object") = some true) && decide (PySem.W.typeIn K (.ref (He.ga K c)) = some (.type "type"))))))))))
structure XF (K : PySem.W.Frag) (C : Addr) : Prop where
  cl : (PySem.W.clsIn K C).isSome = true
  ga : PySem.W.findIn K (.ref C) "__getattribute__" = some (some (.builtin "BaseException.__getattribute__"))
  gt : PySem.W.findIn K (.ref C) "__getattr__" = some none
  sb : PySem.W.subIn K (.ref C) (.type "BaseException") = some true
  hd : PySem.W.hasDictIn K C = true
  ca : PySem.W.findIn K (.ref C) "__class__" = some (some (.builtin "object.__class__"))
  gn : PySem.W.specialIn K (.builtin "object.__class__") "__get__" = some (some (.builtin "getset_descriptor.__get__"))
  tk : PySem.W.takesIn K (.builtin "object.__class__") = some true
  mo : PySem.W.mroIn K C (.type "object") = some true
  ty : PySem.W.typeIn K (.ref C) = some (.type "type")
theorem xfb_ok {K : PySem.W.Frag} {c : Str} (h : xfb K c = true) : XF K (He.ga K c) := by
  unfold xfb at h
  simp only [Bool.and_eq_true] at h
  obtain ⟨h1, h2, h3, h4, h5, h6, h7, h8, h9, h10⟩ := h
  exact ⟨h1, of_decide_eq_true h2, of_decide_eq_true h3, of_decide_eq_true h4, h5, of_decide_eq_true h6, of_decide_eq_true h7, of_decide_eq_true h8, of_decide_eq_true h9, of_decide_eq_true h10⟩
def clU (K : PySem.W.Frag) (d : Str) : Value := if d = "ValueError" then .type "ValueError" else .ref (He.ga K d)
def kitF (K : PySem.W.Frag) (xs : List Str) (d : Str) : Bool := decide (PySem.W.kitOne K (.type "NoneType") (clU K d) = some false) && xs.all fun c => decide (PySem.W.kitOne K (.ref (He.ga K c)) (clU K d) = some (exIs c d))
def exmF (K : PySem.W.Frag) (xs : List Str) (d : Str) : Bool := xs.all fun c => decide (PySem.W.exmOne K (.ref (He.ga K c)) (.ref (He.ga K d)) = some (exIs c d))
def xallB (K : PySem.W.Frag) (xs ds hs fs : List Str) : Bool := (xs.all (xfb K)) && ((ds.all (kitF K xs)) && ((hs.all (exmF K xs)) && (xs.all fun c => fs.all fun f => decide (PySem.W.findIn K (.ref (He.ga K c)) f = some none))))
structure XAll (K : PySem.W.Frag) (mg : Str → Option Value) (xs ds hs fs : List Str) : Prop where
  mgc : ∀ c ∈ xs, mg c = some (.ref (He.ga K c))
  mgd : ∀ d ∈ ds, d ≠ "ValueError" → mg d = some (.ref (He.ga K d))
  mgh : ∀ d ∈ hs, mg d = some (.ref (He.ga K d))
  xf : ∀ c ∈ xs, XF K (He.ga K c)
  kn : ∀ d ∈ ds, PySem.W.kitOne K (.type "NoneType") (clU K d) = some false
  kit : ∀ d ∈ ds, ∀ c ∈ xs, PySem.W.kitOne K (.ref (He.ga K c)) (clU K d) = some (exIs c d)
  exm : ∀ d ∈ hs, ∀ c ∈ xs, PySem.W.exmOne K (.ref (He.ga K c)) (.ref (He.ga K d)) = some (exIs c d)
  fld : ∀ c ∈ xs, ∀ f ∈ fs, PySem.W.findIn K (.ref (He.ga K c)) f = some none
theorem xall_ok {K : PySem.W.Frag} {mg : Str → Option Value} {xs ds hs fs : List Str} (h : xallB K xs ds hs fs = true) (m1 : ∀ c ∈ xs, mg c = some (.ref (He.ga K c))) (m2 : ∀ d ∈ ds, d ≠ "ValueError" → mg d = some (.ref (He.ga K d)))
    (m3 : ∀ d ∈ hs, mg d = some (.ref (He.ga K d))) : XAll K mg xs ds hs fs := by
  unfold xallB at h
  simp only [Bool.and_eq_true, List.all_eq_true] at h
  obtain ⟨h1, h2, h3, h4⟩ := h
  refine ⟨m1, m2, m3, fun c hc => xfb_ok (h1 c hc), fun d hd => ?_, fun d hd c hc => ?_, fun d hd c hc => ?_, fun c hc f hf => of_decide_eq_true (h4 c hc f hf)⟩
  · have := h2 d hd
    unfold kitF at this
    exact of_decide_eq_true (Bool.and_eq_true_iff.mp this).1
  · have := h2 d hd
    unfold kitF at this
    exact of_decide_eq_true (List.all_eq_true.mp (Bool.and_eq_true_iff.mp this).2 c hc)
  · have := h3 d hd
    unfold exmF at this
    exact of_decide_eq_true (List.all_eq_true.mp this c hc)
section
variable {X : Cx} {pins : List (Addr × Obj)} {σ : St} {H : Hp} {s : Shared}
end
section
variable {X : Cx} {W : WX} {sc : Scope} {N : List Str} {xs ds hs fs : List Str} {e : Expr} {p p2 p3 pos : Pos} {f : DF}
inductive ClNs (X : Cx) (sc : Scope) (ds : List Str) : List Expr → List Str → Prop
  | nil : ClNs X sc ds [] []
  | cons {D : Str} {p : Pos} {es : List Expr} {Ds : List Str} : D ∈ ds → glB sc D = true → (D = "ValueError" → X.mg D = none) → (D == ("__debug__" : Str)) = false → starEach (.Name D p :: es) X.env = (false, eval (.Name D p) X.env) :: starEach es X.env → ClNs X sc ds es Ds → ClNs X sc ds (.Name D p :: es) (D :: Ds)
theorem ClNs.mem {es : List Expr} {Ds : List Str} (h : ClNs X sc ds es Ds) : ∀ d ∈ Ds, d ∈ ds := by
  induction h with
  | nil => intro d hd; cases hd
  | cons h1 _ _ _ _ _ ih =>
    intro d hd
    rcases List.mem_cons.mp hd with z | z
    · rw [z]; exact h1
    · exact ih d z
end
end PD
set_option Elab.async false
set_option linter.all false
set_option maxRecDepth 100000
set_option maxHeartbeats 4000000
set_option autoImplicit false
namespace PD
open PySem PySem.Spec L2
open PyProof.Rows (AllBare)
section
variable {X : Cx} {W : WX} {sc : Scope} {N : List Str} {xs ds hs fs : List Str} {b s : DS} {body suite : List Stmt} {b0 : Stmt} {np pos pos2 : Pos}
theorem XdOk.mono {K : PySem.W.Frag} {G G' : Rg} {H H' : Hp} {d : Option Addr} {flds : List (Str × PyData)} (h : XdOk K G H d flds) (g : RgLe G G') (t : TupLe H H') : XdOk K G' H' d flds := by
  rcases h with ⟨dd, fl, rfl, g2, e1, e2⟩ | ⟨rfl, rfl⟩
  · exact .inl ⟨dd, fl, rfl, g _ _ g2, e1, e2.mono g t⟩
  · exact .inr ⟨rfl, rfl⟩
end
def XMk (X : Cx) (c : Str) (fns : List Str) : Prop :=
  ∀ (e : Expr) (es : List Expr) (t : TA) (p pos : Pos), PA X (e :: es) t → (∀ σ H (Q Q' : List V → Hp → Prop), (∀ vs H1, Q vs H1 → Q' vs H1) → t σ H Q → t σ H Q') → glB X.env.scope c = true → starEach (e :: es) X.env = (false, eval e X.env) :: starEach es X.env → (backTo pos (starEach es X.env)).any (·.1) = false →
    PMk X (.Call (.Name c p) (e :: es) [] pos) (fun σ H Q => t σ H fun vs H1 => vs.length = fns.length ∧ ∀ d, H1 d = none → Q (.ref (He.ga X.K c)) (some d) (upd H1 d (.xd (fns.zip vs).reverse)))
def bRaise (c : Str) (fns : List Str) (k : DA) : DS := fun Γ => (k Γ).bind fun z => match allF z.1 with
  | some (ds, true) => if ds.length = fns.length then .exc ⟨c, (fns.zip ds).reverse, z.2⟩ else .bad
  | _ => .bad
theorem zip_fst2 {α β : Type} : ∀ (xs : List α) (ys : List β), ys.length = xs.length → (xs.zip ys).map (·.1) = xs
  | [], _, _ => rfl
  | _ :: _, [], h => by cases h
  | x :: xs, y :: ys, h => by
    rw [List.zip_cons_cons, List.map_cons, zip_fst2 xs ys (by simpa using h)]
theorem zip_snd2 {α β : Type} : ∀ (xs : List α) (ys : List β), ys.length = xs.length → (xs.zip ys).map (·.2) = ys
  | [], [], _ => rfl
  | [], _ :: _, h => by cases h
  | _ :: _, [], h => by cases h
  | x :: xs, y :: ys, h => by
    rw [List.zip_cons_cons, List.map_cons, zip_snd2 xs ys (by simpa using h)]
section
variable {X : Cx} {W : WX} {sc : Scope} {N : List Str} {xs ds hs fs fns : List Str} {c : Str} {e : Expr} {es : List Expr} {k : DA} {p pos pos2 : Pos}
theorem c1_raise (C : Cf X W sc N) (F : XAll X.K X.mg xs ds hs fs) (M : XMk X c fns) (hc : c ∈ xs) (hg : glB sc c = true) (ha : CA X W (e :: es) k)
    (he : starEach (e :: es) X.env = (false, eval e X.env) :: starEach es X.env := by rfl) (hpl : (backTo pos (starEach es X.env)).any (·.1) = false := by rfl) : C1 X W (.Raise (some (.Call (.Name c p) (e :: es) [] pos)) none pos2) (bRaise c fns k) := fun Γ => by
  refine ps_imp (ps_raise C.calm C.tk (M e es _ p pos (ha Γ) (fun σ H Q Q' hk ⟨G, S, q⟩ => ⟨G, S, q.imp fun r G1 H1 e1 h vs S1 av => hk vs H1 (h vs S1 av)⟩) (by rw [C.hsc]; exact hg) he hpl)) fun D σ H ⟨G, S, q⟩ => ⟨G, S, (Pst.bind q).imp fun z G1 H1 e1 p1 vs S1 av => ?_⟩
  cases hz : allF z.1 with
  | none => rw [hz] at p1; exact p1.elim
  | some r =>
    obtain ⟨dl, fr⟩ := r
    rw [hz] at p1
    cases fr with
    | false => exact p1.elim
    | true =>
      dsimp only at p1
      have dn := allF_ok hz av
      by_cases hl : dl.length = fns.length
      · rw [if_pos hl] at p1
        have hv : vs.length = fns.length := by rw [← hl]; exact dn.length
        refine ⟨hv, fun d hd => ?_⟩
        obtain ⟨S2, e2⟩ := S1.grow (grow_new (o := .xd (fns.zip vs).reverse) S1.w hd)
        refine p1 _ _ σ (He.ga X.K c) (some d) e2 S2 (F.mgc c hc) (.inl ⟨d, _, rfl, upd_same, ?_, ?_⟩)
        · rw [List.map_reverse, List.map_reverse, zip_fst2 _ _ hv, zip_fst2 _ _ hl]
        · rw [List.map_reverse, List.map_reverse, zip_snd2 _ _ hv, zip_snd2 _ _ hl]
          exact (e2.dna dn).reverse
      · rw [if_neg hl] at p1
        exact p1.elim
end
end PD
set_option Elab.async false
set_option linter.all false
set_option maxRecDepth 100000
set_option maxHeartbeats 4000000
set_option autoImplicit false
namespace PD
open PySem PySem.Spec L2
def huntB (K : PySem.W.Frag) : Bool := PySem.W.readsIn K (He.ga K "HuntError") (.type "type") && (decide (PySem.W.specialIn K (.ref (He.ga K "HuntError")) "__getattribute__" = some (some (.builtin "type.__getattribute__"))) &&
  (match PySem.W.findCls K (.ref (He.ga K "HuntError")) (.type "type") "__init__" with
    | some (.val (.builtin n)) => decide (n = "ValueError.__init__")
    | _ => false))
structure HuntC (K : PySem.W.Frag) (C : Addr) : Prop where
  rd : PySem.W.readsIn K C (.type "type") = true
  ga : PySem.W.specialIn K (.ref C) "__getattribute__" = some (some (.builtin "type.__getattribute__"))
  ini : PySem.W.findCls K (.ref C) (.type "type") "__init__" = some (.val (.builtin "ValueError.__init__"))
theorem huntB_ok {K : PySem.W.Frag} (h : huntB K = true) : HuntC K (He.ga K "HuntError") := by
  unfold huntB at h
  simp only [Bool.and_eq_true] at h
  obtain ⟨h1, h2, h3⟩ := h
  refine ⟨h1, of_decide_eq_true h2, ?_⟩
  split at h3
  · rename_i n e
    rw [e, of_decide_eq_true h3]
  · cases h3
def oexB (K : PySem.W.Frag) (C : Addr) : Bool := (match K.lookup C with
  | some ⟨.type "type", _, .cls cd, sl⟩ => (match cd.mro, sl.toList with
    | .ref C' :: bm, [_, _, _, _, some (.builtin n), _] => C' == C && (n == "ValueError.__new__" && (!cd.hasDel && (cd.hasDict && PySem.HandSPX.refsVE bm)))
    | _, _ => false)
  | _ => false) && (decide (PySem.W.findIn K (.ref C) "__setattr__" = some (some (.builtin "object.__setattr__"))) && (decide (PySem.W.subIn K (.ref C) (.type "BaseException") = some true) && (decide (PySem.W.typeIn K (.ref C) = some (.type "type")) && PySem.W.keepIn K (.ref C))))
theorem oexB_ok {K : PySem.W.Frag} {C : Addr} (h : oexB K C = true) : OexC K C := by
  unfold oexB at h
  rw [Bool.and_eq_true] at h
  obtain ⟨h0, h⟩ := h
  simp only [Bool.and_eq_true] at h
  obtain ⟨h1, h2, h3, h4⟩ := h
  refine ⟨?_, of_decide_eq_true h1, of_decide_eq_true h2, of_decide_eq_true h3, h4⟩
  split at h0
  · rename_i dd cd sl ho
    split at h0
    · rename_i C' bm k0 k1 k2 k3 n k5 hm hs
      simp only [Bool.and_eq_true, beq_iff_eq, Bool.not_eq_true'] at h0
      obtain ⟨rfl, rfl, hdel, hdc, ht⟩ := h0
      obtain ⟨nm, bs, mro, ns, qn, hd, sn, sub, ab, col, del⟩ := cd
      dsimp only at hm hdel hdc
      subst hm hdel hdc
      have e : sl = #[k0, k1, k2, k3, some (.builtin "ValueError.__new__"), k5] := by
        obtain ⟨l⟩ := sl
        dsimp only at hs
        rw [hs]
      subst e
      exact ⟨nm, qn, ns, bs, bm, sn, sub, ab, col, dd, k0, k1, k2, k3, k5, ho, ht⟩
    · cases h0
  · cases h0
section
variable {X : Cx} {e : Expr} {es : List Expr} {ta : TA} {p1 p2 pos : Pos}
theorem pe_hinit {CH : Addr} {pl : Sem Bool} (T : HuntC X.K CH) (hg : Gl X "HuntError") (hm : X.mg "HuntError" = some (.ref CH)) (ha : PA X (e :: es) ta)
    (hc : eval (.Call (.Attribute (.Name "HuntError" p1) "__init__" p2) (e :: es) [] pos) X.env = (do
      let ov ← eval (.Name "HuntError" p1) X.env
      standAt p2.atName
      let (f, first) ← holding [ov] (getMethod ov "__init__" pl)
      callWith pos f first (backTo pos (starEach (e :: es) X.env)) (backToKw pos (keywordEach [] X.env))) := by rfl)
    (he : starEach (e :: es) X.env = (false, eval e X.env) :: starEach es X.env := by rfl) (hpl : (backTo pos (starEach es X.env)).any (·.1) = false := by rfl) :
    PE X (.Call (.Attribute (.Name "HuntError" p1) "__init__" p2) (e :: es) [] pos) (tVeI X.K ta) := by
  refine ⟨fun pins s σ H Q I h => ?_⟩
  refine PySem.W.methodCall_KW (ld_glob I hg hm ?_ (by decide +kernel)) hc
  refine PySem.W.method_cls I.kIn T.ga (PySem.W.cls_value I.kIn T.rd T.ini (by decide +kernel) ?_)
  show wpAny _ _ (callWith pos (Value.builtin "ValueError.__init__") [] (backTo pos (starEach (e :: es) X.env)) []) _ _ _
  refine PyProof.Rows.callWith_method1 (thn (ha.run pos pins _ σ H _ (I.tok _) h) fun us s1 ⟨vs, H1, I1, r1, a, C, ws, ev, hl, T, ea, q⟩ => ?_) he hpl
  subst ev
  cases r1 with
  | @cons _ u0 _ ur ra rr =>
    obtain rfl : u0 = Value.ref a := ra
    have hn : ur.length ≤ sizeLine := by
      have e1 := Paired.length rr
      have e2 := sizeLine_eq
      omega
    exact oinit_ok T I1 ea hn fun s2 J => ⟨.non, H1, J, rfl, q⟩
end
def spI (K : PySem.W.Frag) (fns : List Str) : Sp := fun vs H Q _ => ∃ (a C : Addr) (ws : List V), vs = .ref a :: ws ∧ ws.length = fns.length ∧ OexC K C ∧ (∀ f ∈ fns, PySem.W.findIn K (.ref C) f = some none) ∧ H a = some (exo a C none) ∧
  ∀ dx, H dx = none → dx ≠ a → Q .non (upd (upd H dx (exd dx (fns.zip ws).reverse)) a (exo a C (some dx)))
section
variable {P : Program} {w : World} {K : PySem.W.Frag} {mg : Str → Option Value} {base : Heap} {qual : Str} {params : Arguments} {body : List Stmt} {scope : Scope} {fI : Addr} {fd : FuncData} {CH : Addr}
theorem spI_len {fns : List Str} {n : Nat} (hn : fns.length + 1 = n) : ∀ vs H Q E, spI K fns vs H Q E → vs.length = n := fun vs H Q E ⟨a, C, ws, e, h, _⟩ => by
  rw [e, List.length_cons, h, hn]
theorem fi1 {f msg : Str} {j : Nat} {q1 q2 q3 q4 q5 q6 q7 q8 q9 q10 : Pos} (F : FunD K "__init__" qual params body scope [] [] fI fd) (S : FnScope ["self", f] ["self", f] scope)
    (hbd : body = [.Expr (.Call (.Attribute (.Name "HuntError" q1) "__init__" q2) [.Name "self" q3, .Constant (.str msg) j q4] [] q5) q6, .Assign [.Attribute (.Name "self" q7) f q8] (.Name f q9) q10])
    (hc : ∀ env : Env, ∃ pl : Sem Bool, eval (.Call (.Attribute (.Name "HuntError" q1) "__init__" q2) [.Name "self" q3, .Constant (.str msg) j q4] [] q5) env = (do
      let ov ← eval (.Name "HuntError" q1) env
      standAt q2.atName
      let (f, first) ← holding [ov] (getMethod ov "__init__" pl)
      callWith q5 f first (backTo q5 (starEach [.Name "self" q3, .Constant (.str msg) j q4] env)) (backToKw q5 (keywordEach [] env))))
    (hgl : glB scope "HuntError" = true) (hv0 : visB scope "self" = true) (hv1 : visB scope f = true) (hmg : mg "HuntError" = some (.ref CH)) (T : HuntC K CH) (hf1 : (f == ("__debug__" : Str)) = false) (hf2 : (f == ("__classdict__" : Str)) = false) :
    FnOk P w K mg base (L2.CX P w) 1 fI fd ["self", f] (spI K [f]) := by
  refine F.ok S (spI_len rfl) fun cdv A outer s H vs Q E hr ⟨a, C, ws, e, hl, TC, hno, ea, hq⟩ => ?_
  subst e
  obtain ⟨v, rfl⟩ : ∃ v, ws = [v] := by
    cases ws with
    | nil => cases hl
    | cons v r =>
      cases r with
      | nil => exact ⟨v, rfl⟩
      | cons _ _ => cases hl
  subst hbd
  obtain ⟨pl, hc⟩ := hc (PyProof.Rows.envOfC qual scope s.heap.objs.size fI cdv)
  have g : Gl (cxOf (L2.CX P w) P w K mg base ["self", f] qual scope fI cdv A outer s H E) "HuntError" := gl_of hgl
  refine ⟨_, pss_cons (ps_expr (pe_hinit (CH := CH) T g hmg (pa_cons (pe_var (i := 0) rfl (vis_of hv0)) (pa_cons pe_str pa_nil)) (pl := pl) hc)) (pss_cons (ps_ost (pe_var (i := 0) rfl (vis_of hv0)) (pe_var (i := 1) rfl (vis_of hv1) hf1 hf2)) pss_nil), ?_⟩
  refine ⟨.ref a, rfl, a, C, [.str msg], rfl, by simp, TC, ea, ?_⟩
  refine ⟨v, rfl, .ref a, rfl, a, C, rfl, TC, hno f (by simp), .inl ⟨ea, fun dx n ne => hq dx n ne⟩⟩
end
section
variable {X : Cx} {W : WX} {sc : Scope} {N : List Str}
theorem xmk_of (C : Cf0 X W sc N) {c : Str} {fns ps : List Str} {fd : FuncData} (T : OexC X.K (He.ga X.K c)) (iC : PySem.W.findIn X.K (.ref (He.ga X.K c)) "__init__" = some (some (.ref (He.fAd X.K (c, some "__init__")))))
    (tI : PySem.W.typeIn X.K (.ref (He.fAd X.K (c, some "__init__"))) = some (.type "function")) (hno : ∀ f ∈ fns, PySem.W.findIn X.K (.ref (He.ga X.K c)) f = some none)
    (F1 : FnOk X.prog X.w X.K X.mg X.base (L2.CX X.prog X.w) 1 (He.fAd X.K (c, some "__init__")) fd ps (spI X.K fns)) (hr : Room 2 X.A) (hb : Binds X.K fd ps []) (hm : X.mg c = some (.ref (He.ga X.K c))) (hs : fns.length ≤ 1000)
    (hdb : (c == ("__debug__" : Str)) = false := by decide +kernel) : XMk X c fns := fun e es t p pos ha mn hg he hpl pins s σ H Q I h => by
  refine pmk_oex (ds := []) (dvs := []) T iC tI F1 hr hb .nil (passes_call C.tk fun _ _ _ _ z => z.elim) (gl_of hg) hm ha hdb he hpl pins s σ H Q I ?_
  refine mn _ _ _ _ (fun vs H1 ⟨hl, hq⟩ => ⟨by rw [hl]; exact hs, fun a na => ?_⟩) h
  rw [List.append_nil]
  refine ⟨a, He.ga X.K c, vs, rfl, hl, T, hno, upd_same, fun dx hdx ne => ⟨rfl, dx, (fns.zip vs).reverse, upd_same, (upd_ne ne).trans upd_same, ?_, ?_⟩⟩
  · rw [upd_ne ne] at hdx
    exact hdx
  · have e2 : upd (L2.del (upd (upd (upd H1 a (exo a (He.ga X.K c) none)) dx (exd dx (fns.zip vs).reverse)) a (exo a (He.ga X.K c) (some dx))) a) dx (.xd (fns.zip vs).reverse) = upd H1 dx (.xd (fns.zip vs).reverse) := by
      funext b
      by_cases h1 : b = dx
      · rw [h1, upd_same, upd_same]
      · rw [upd_ne h1, upd_ne h1]
        by_cases h2 : b = a
        · rw [h2, L2.del_same, na]
        · rw [L2.del_ne h2, upd_ne h2, upd_ne h1, upd_ne h2]
    rw [e2]
    rw [upd_ne ne] at hdx
    exact hq dx hdx
end
end PD
set_option Elab.async false
set_option linter.all false
set_option maxRecDepth 100000
set_option maxHeartbeats 4000000
set_option autoImplicit false
namespace PD
open PySem PySem.Spec PyProof.Rows L2
open L2H (RoomH)
structure FnQ (P : Program) (w : World) (K : PySem.W.Frag) (mg : Str → Option Value) (base : Heap) (k : Nat) (f : Addr) (fd : FuncData) (ps : List Str) (sp : Sp) : Prop where
  len : ∀ vs H Q E, sp vs H Q E → vs.length = ps.length
  run : ∀ (A : Around) (outer : List Env) (s : Shared) (H : Hp) (args : Args) (us : List Value) (vs : List V) (Q : VK) (E : XK), RoomH k A → Env0 P w K mg base A outer s H → BindsTo s fd args (ps.zip us) → Vals vs us → sp vs H Q E →
    codeAny (model P w) A (.call (.ref f) args) (CR (L2.CX P w) outer P w H s Q E) s
section
variable {P : Program} {w : World} {K : PySem.W.Frag} {mg : Str → Option Value} {base : Heap} {N ps : List Str} {qual : Str} {scope : Scope} {f : Addr} {cd : Value} {A : Around} {outer : List Env} {s s1 : Shared} {H : Hp} {E : XK} {us : List Value} {vs : List V}
end
structure HereQ (X : Cx) (W : WX) (P : Program) (w : World) (K : PySem.W.Frag) (mg : Str → Option Value) (base : Heap) (scope : Scope) (N : List Str) (k : Nat) : Prop where
  cf : Cf0 X W scope N
  prog : X.prog = P
  w : X.w = w
  K : X.K = K
  mg : X.mg = mg
  base : X.base = base
  room : RoomH k X.A
  fn : ∀ x, X.fn x = true
section
variable {P : Program} {w : World} {K : PySem.W.Frag} {mg : Str → Option Value} {base : Heap} {N ps : List Str} {name qual : Str} {scope : Scope} {f : Addr} {k : Nat} {params : Arguments} {body : List Stmt} {dvs : List V} {kws : List (Str × V)} {fd : FuncData}
end
def CleeQ (X : Cx) (x : Str) (dvs : List V) (sp : Sp) : Prop :=
  ∃ (k : Nat) (f : Addr) (fd : FuncData) (ps : List Str) (ds : List Value), FnQ X.prog X.w X.K X.mg X.base k f fd ps sp ∧ RoomH k X.A ∧ X.mg x = some (.ref f) ∧ PySem.W.keepIn X.K (.ref f) = true ∧ Binds X.K fd ps ds ∧ Vals dvs ds
section
variable {X : Cx} {W : WX} {sc : Scope} {N : List Str} {x : Str} {e : Expr} {es : List Expr} {p pos : Pos} {k : DA} {dvs : List V} {dds : List PyData} {m : List Ar → R (Rs × List Sl)} {t : TA}
theorem CleeQ.suite {sp : Sp} (h : CleeQ X x dvs sp) (a : Addr) (pn : List (Addr × Obj)) : CleeQ (X.suite a pn) x dvs sp := by
  obtain ⟨k, f, fd, ps, ds, h1, h2, h3⟩ := h
  exact ⟨k, f, fd, ps, ds, h1, ⟨h2.dp, h2.un⟩, h3⟩
end
def GvQ (P : Program) (w : World) (K : PySem.W.Frag) (mg : Str → Option Value) (base : Heap) (k : Nat) (x : Str) (dvs : List V) (sp : Sp) : Prop :=
  ∃ (f : Addr) (fd : FuncData) (ps : List Str) (ds : List Value), FnQ P w K mg base k f fd ps sp ∧ mg x = some (.ref f) ∧ PySem.W.keepIn K (.ref f) = true ∧ Binds K fd ps ds ∧ Vals dvs ds
theorem GvQ.u {P : Program} {w : World} {K : PySem.W.Frag} {mg : Str → Option Value} {base : Heap} {k k' : Nat} {x : Str} {dvs : List V} {m : List Ar → R (Rs × List Sl)} {scope : Scope} {X : Cx} {W : WX} {N : List Str} (g : GvQ P w K mg base k x dvs (spU K mg m)) (h : Here X W P w K mg base scope N k') (hk : k ≤ k') : CleeQ X x dvs (spU X.K X.mg m) := by
  obtain ⟨f, fd, ps, ds, h1, h2, h3, h4, h5⟩ := g
  have e1 := h.prog
  have e2 := h.w
  have e3 := h.K
  have e4 := h.mg
  have e5 := h.base
  subst e1 e2 e3 e4 e5
  exact ⟨k, f, fd, ps, ds, h1, (L2H.roomH_of h.room).mono hk, h2, h3, h4, h5⟩
end PD
set_option Elab.async false
set_option linter.all false
set_option maxRecDepth 100000
set_option maxHeartbeats 4000000
set_option autoImplicit false
namespace PD
open PySem PySem.Spec L2
theorem Clee.tr {X : Cx} {x : Str} {dvs : List V} {sp : Sp} (h : Clee X x dvs sp) {pn : List (Addr × Obj)} {xe : Value → Shared → Prop} : Clee (X.tr pn xe) x dvs sp := h
theorem CleeK.tr {X : Cx} {x : Str} {n : Nat} {ks : List Str} {dvs : List V} {sp : Sp} (h : CleeK X x n ks dvs sp) {pn : List (Addr × Obj)} {xe : Value → Shared → Prop} : CleeK (X.tr pn xe) x n ks dvs sp := h
theorem all_nil {p : Str → Prop} : ∀ c ∈ ([] : List Str), p c := fun c h => by cases h
theorem all_cons {p : Str → Prop} {a : Str} {as : List Str} (h : p a) (r : ∀ c ∈ as, p c) : ∀ c ∈ a :: as, p c := fun c hc => by
  rcases List.mem_cons.mp hc with z | z
  · rw [z]; exact h
  · exact r c z
def isInit : Stmt → Bool
  | .FunctionDef n _ _ _ _ _ _ _ _ _ => decide (n = "__init__")
  | _ => false
def clsInit : Stmt → Stmt
  | .ClassDef _ _ _ body _ _ _ _ _ _ _ => (body.find? isInit).getD (.Pass ⟨0, 0, 0, 0⟩)
  | s => s
def iniB (K : PySem.W.Frag) (c : Str) : Bool := oexB K (He.ga K c) && (decide (PySem.W.findIn K (.ref (He.ga K c)) "__init__" = some (some (.ref (He.fAd K (c, some "__init__"))))) && decide (PySem.W.typeIn K (.ref (He.fAd K (c, some "__init__"))) = some (.type "function")))
structure IniC (K : PySem.W.Frag) (c : Str) : Prop where
  T : OexC K (He.ga K c)
  iC : PySem.W.findIn K (.ref (He.ga K c)) "__init__" = some (some (.ref (He.fAd K (c, some "__init__"))))
  tI : PySem.W.typeIn K (.ref (He.fAd K (c, some "__init__"))) = some (.type "function")
theorem iniB_ok {K : PySem.W.Frag} {c : Str} (h : iniB K c = true) : IniC K c := by
  unfold iniB at h
  simp only [Bool.and_eq_true] at h
  exact ⟨oexB_ok h.1, of_decide_eq_true h.2.1, of_decide_eq_true h.2.2⟩
def Sh1 (f : Str) (body : List Stmt) : Prop := ∃ (msg : Str) (j : Nat) (q1 q2 q3 q4 q5 q6 q7 q8 q9 q10 : Pos), body = [.Expr (.Call (.Attribute (.Name "HuntError" q1) "__init__" q2) [.Name "self" q3, .Constant (.str msg) j q4] [] q5) q6, .Assign [.Attribute (.Name "self" q7) f q8] (.Name f q9) q10] ∧
  ∀ env : Env, ∃ pl : Sem Bool, eval (.Call (.Attribute (.Name "HuntError" q1) "__init__" q2) [.Name "self" q3, .Constant (.str msg) j q4] [] q5) env = (do
    let ov ← eval (.Name "HuntError" q1) env
    standAt q2.atName
    let (f, first) ← holding [ov] (getMethod ov "__init__" pl)
    callWith q5 f first (backTo q5 (starEach [.Name "self" q3, .Constant (.str msg) j q4] env)) (backToKw q5 (keywordEach [] env)))
section
variable {P : Program} {w : World} {K : PySem.W.Frag} {mg : Str → Option Value} {base : Heap} {X : Cx} {W : WX} {scope : Scope} {N : List Str} {k : Nat} {xs ds hs fs : List Str} {c f f2 qual : Str} {params : Arguments} {body : List Stmt} {sc : Scope} {fd : FuncData}
theorem xm1 (h : Here X W P w K mg base scope N k) (hk : 2 ≤ k) (F : FunD K "__init__" qual params body sc [] [] (He.fAd K (c, some "__init__")) fd) (B : Binds K fd ["self", f] []) (I : IniC K c) (A : XAll K mg xs ds hs fs) (T : HuntC K (He.ga K "HuntError")) (hm : mg "HuntError" = some (.ref (He.ga K "HuntError")))
    (hc : c ∈ xs) (hf : f ∈ fs) (S : FnScope ["self", f] ["self", f] sc) (hbd : Sh1 f body) (g : glB sc "HuntError" = true) (v0 : visB sc "self" = true) (v1 : visB sc f = true) (hf1 : (f == ("__debug__" : Str)) = false := by decide +kernel) (hf2 : (f == ("__classdict__" : Str)) = false := by decide +kernel)
    (hdb : (c == ("__debug__" : Str)) = false := by decide +kernel) : XMk X c [f] := by
  obtain ⟨msg, j, q1, q2, q3, q4, q5, q6, q7, q8, q9, q10, hb, he⟩ := hbd
  have e1 := h.prog
  have e2 := h.w
  have e3 := h.K
  have e4 := h.mg
  have e5 := h.base
  subst e1 e2 e3 e4 e5
  have hno : ∀ n ∈ [f], PySem.W.findIn X.K (.ref (He.ga X.K c)) n = some none := fun n hn => by
    have : n = f := by simpa using hn
    rw [this]
    exact A.fld c hc f hf
  exact xmk_of h.cf.toCf0 I.T I.iC I.tI hno (fi1 F S hb he g v0 v1 hm T hf1 hf2) (h.room.mono hk) B (A.mgc c hc) (by simp) hdb
end
def obsX (fx : List (PySem.W.Frag → Bool)) (fa : List He.Fa) (fn : List He.DefD) (K : PySem.W.Frag) : He.AlD := ((fx.all fun f => f K) && (He.obsD fa fn K).1, (He.obsD fa fn K).2)
def SaysX (fx : List (PySem.W.Frag → Bool)) (fa : List He.Fa) (fn : List He.DefD) (K : PySem.W.Frag) : Prop := obsX fx fa fn K = He.valD fn
def obsXG (n : Nat) (fx : List (PySem.W.Frag → Bool)) (fa : List He.Fa) (fn : List He.DefD) (g : Addr → Option Obj) : He.AlD := obsX fx fa fn (He.frG g (He.asD g n ++ [PySem.cStatics]))
def hookX (n : Nat) (fx : List (PySem.W.Frag → Bool)) (fa : List He.Fa) (fn : List He.DefD) : PySem.W.Hook where
  α := He.AlD
  obs := fun s => obsXG n fx fa fn s.heap.get?
  val := fun _ => He.valD fn
  says := fun _ h => ∃ K : PySem.W.Frag, K.In h ∧ SaysX fx fa fn K
  of := fun _ _ e => ⟨_, He.frG_in, e⟩
  keeps := fun _ _ _ ⟨K, hK, c⟩ k => ⟨K, PySem.W.Frag.In.keeps hK k, c⟩
theorem obsXG_eq {n : Nat} {fx : List (PySem.W.Frag → Bool)} {fa : List He.Fa} {fn : List He.DefD} {g : Addr → Option Obj} {s : Shared} (h : ∀ a, g a = s.heap.get? a) : obsXG n fx fa fn g = (hookX n fx fa fn).obs s := by
  have e : g = s.heap.get? := funext h
  rw [e] <;> rfl
theorem SaysX.d {fx : List (PySem.W.Frag → Bool)} {fa : List He.Fa} {fn : List He.DefD} {K : PySem.W.Frag} (c : SaysX fx fa fn K) : He.SaysD fa fn K := by
  have c : ((fx.all fun f => f K) && (He.obsD fa fn K).1, (He.obsD fa fn K).2) = He.valD fn := c
  have e1 : ((fx.all fun f => f K) && (He.obsD fa fn K).1) = true := congrArg (fun z : He.AlD => z.1) c
  have e2 : (He.obsD fa fn K).2 = (He.valD fn).2 := (Prod.mk.inj (c.trans (show He.valD fn = ((He.valD fn).1, (He.valD fn).2) from rfl))).2
  exact Prod.ext (Bool.and_eq_true_iff.mp e1).2 e2
theorem SaysX.x {fx : List (PySem.W.Frag → Bool)} {fa : List He.Fa} {fn : List He.DefD} {K : PySem.W.Frag} (c : SaysX fx fa fn K) (i : Nat) {f : PySem.W.Frag → Bool} (h : fx[i]? = some f := by rfl) : f K = true := by
  have c : ((fx.all fun f => f K) && (He.obsD fa fn K).1, (He.obsD fa fn K).2) = He.valD fn := c
  have e1 : ((fx.all fun f => f K) && (He.obsD fa fn K).1) = true := congrArg (fun z : He.AlD => z.1) c
  exact List.all_eq_true.mp (Bool.and_eq_true_iff.mp e1).1 f (List.mem_of_getElem? h)
end PD
set_option Elab.async false
set_option linter.all false
set_option maxRecDepth 100000
set_option maxHeartbeats 4000000
set_option autoImplicit false
namespace PD
open PySem PySem.Spec L2
open PyProof.Rows hiding St
def isLst : PyData → Bool
  | .list _ => true
  | _ => false
section
variable {X : Cx} {W : WX} {sc : Scope} {N : List Str} {a b e o : Expr} {p p2 pos apos cpos : Pos} {f g h : DF}
end
end PD
set_option Elab.async false
set_option linter.all false
set_option maxRecDepth 100000
set_option maxHeartbeats 4000000
set_option autoImplicit false
namespace PD
open PySem PySem.Spec L2
open PyProof.Rows hiding St
section
variable {X : Cx} {W : WX} {sc : Scope} {N : List Str} {e : Expr} {p pos : Pos} {f : DF} {x : Str} {vs : List V} {ds : List PyData}
end
end PD
set_option Elab.async false
set_option linter.all false
set_option maxRecDepth 100000
set_option maxHeartbeats 4000000
set_option autoImplicit false
namespace PD
open PySem PySem.Spec L2
open PyProof.Rows hiding St
section
variable {X : Cx} {W : WX} {sc : Scope} {N : List Str} {e tg : Expr} {apos cpos p : Pos} {f : DF}
end
end PD
set_option Elab.async false
set_option linter.all false
set_option maxRecDepth 100000
set_option maxHeartbeats 4000000
set_option autoImplicit false
namespace PD
open PySem PySem.Spec L2
open PyProof.Rows hiding St
section
variable {X : Cx} {W : WX} {sc : Scope} {N : List Str} {a b : Expr} {pos : Pos} {f g : DF}
end
end PD
set_option Elab.async false
set_option linter.all false
set_option maxRecDepth 100000
set_option maxHeartbeats 4000000
set_option autoImplicit false
namespace PD
open PySem L2
def pickP {α : Type} (pm : List Nat) (xs : List α) : List α := pm.filterMap fun i => xs[i]?
theorem Vals.pickP {xs : List V} {us : List Value} (h : Vals xs us) (pm : List Nat) : Vals (pickP pm xs) (pickP pm us) := by
  induction pm with
  | nil => exact .nil
  | cons i r ih =>
    unfold PD.pickP at ih ⊢
    rw [List.filterMap_cons, List.filterMap_cons]
    cases hx : xs[i]? with
    | none =>
      have : us[i]? = none := by
        rw [List.getElem?_eq_none_iff] at hx ⊢
        rw [← h.length]; exact hx
      rw [this]
      exact ih
    | some x =>
      obtain ⟨u, hu, r⟩ := h.get hx
      rw [hu]
      exact .cons r ih
section
variable {X : Cx} {W : WX} {sc : Scope} {N : List Str} {a b c e : Expr} {es : List Expr} {pos p : Pos} {Γ : List Sl}
theorem AVs.get {K : PySem.W.Frag} {G : Gh} {H : Hp} {σ : St} : ∀ {vs : List V} {as : List AV}, AVs K G H σ vs as → ∀ i : Nat, (vs[i]? = none ∧ as[i]? = none) ∨ ∃ v a, vs[i]? = some v ∧ as[i]? = some a ∧ AVok K G H σ v a
  | _, _, .nil, i => .inl ⟨by simp, by simp⟩
  | _, _, .cons h t, 0 => .inr ⟨_, _, by simp, by simp, h⟩
  | _, _, .cons h t, i + 1 => by simpa using AVs.get t i
theorem AVs.pickP {K : PySem.W.Frag} {G : Gh} {H : Hp} {σ : St} {vs : List V} {as : List AV} (h : AVs K G H σ vs as) (pm : List Nat) : AVs K G H σ (pickP pm vs) (pickP pm as) := by
  induction pm with
  | nil => exact .nil
  | cons i r ih =>
    unfold PD.pickP at ih ⊢
    rw [List.filterMap_cons, List.filterMap_cons]
    rcases h.get i with ⟨e1, e2⟩ | ⟨v, a, e1, e2, hv⟩
    · rw [e1, e2]; exact ih
    · rw [e1, e2]; exact .cons hv ih
def GvP (P : Program) (w : World) (K : PySem.W.Frag) (mg : Str → Option Value) (base : Heap) (k : Nat) (x : Str) (n : Nat) (ks : List Str) (pm : List Nat) (dvs : List V) (sp : Sp) : Prop :=
  ∃ (f : Addr) (fd : FuncData) (ps : List Str) (its : List Value), FnOk P w K mg base (L2.CX P w) k f fd ps sp ∧ mg x = some (.ref f) ∧ PySem.W.keepIn K (.ref f) = true ∧ KBn K fd ps n ks (fun us ws => pickP pm (us ++ ws ++ its)) (fun vs zs => pickP pm (vs ++ zs ++ dvs))
def CleeP (X : Cx) (x : Str) (n : Nat) (ks : List Str) (pm : List Nat) (dvs : List V) (sp : Sp) : Prop :=
  ∃ (k : Nat) (f : Addr) (fd : FuncData) (ps : List Str) (its : List Value), FnOk X.prog X.w X.K X.mg X.base (L2.CX X.prog X.w) k f fd ps sp ∧ Room k X.A ∧ X.mg x = some (.ref f) ∧ PySem.W.keepIn X.K (.ref f) = true ∧ KBn X.K fd ps n ks (fun us ws => pickP pm (us ++ ws ++ its)) (fun vs zs => pickP pm (vs ++ zs ++ dvs))
theorem GvP.clee {P : Program} {w : World} {K : PySem.W.Frag} {mg : Str → Option Value} {base : Heap} {k k' : Nat} {x : Str} {n : Nat} {ks : List Str} {pm : List Nat} {dvs : List V} {sp : Sp} {scope : Scope} (g : GvP P w K mg base k x n ks pm dvs sp) (h : Here X W P w K mg base scope N k') (hk : k ≤ k') : CleeP X x n ks pm dvs sp := by
  obtain ⟨f, fd, ps, its, g1, g2, g3, g4⟩ := g
  refine ⟨k, f, fd, ps, its, ?_, h.room.mono hk, ?_, ?_, ?_⟩
  · rw [h.prog, h.w, h.K, h.mg, h.base]; exact g1
  · rw [h.mg]; exact g2
  · rw [h.K]; exact g3
  · rw [h.K]; exact g4
theorem CleeP.blk {x : Str} {n : Nat} {ks : List Str} {pm : List Nat} {dvs : List V} {sp : Sp} (h : CleeP X x n ks pm dvs sp) {s : Shared} {H : Hp} {scope : Scope} {ce : Env} {fp : List Addr} : CleeP (X.blk s H scope ce fp) x n ks pm dvs sp := h
theorem GvP.u {P : Program} {w : World} {K : PySem.W.Frag} {mg : Str → Option Value} {base : Heap} {k k' : Nat} {x : Str} {n : Nat} {ks : List Str} {pm : List Nat} {dvs : List V} {m : List Ar → R (Rs × List Sl)} {scope : Scope} (g : GvP P w K mg base k x n ks pm dvs (spU K mg m)) (h : Here X W P w K mg base scope N k') (hk : k ≤ k') : CleeP X x n ks pm dvs (spU X.K X.mg m) := by
  have := g.clee h hk
  rw [h.K, h.mg]
  exact this
end
section
variable {X : Cx} {W : WX} {sc : Scope} {N : List Str} {a b c e : Expr} {es : List Expr} {pos p : Pos} {f : DF} {x : Str} {dvs : List V} {dds : List PyData} {m : List Ar → R (Rs × List Sl)} {kws : List Keyword} {ks : List Str} {n : Nat} {pm : List Nat} {k kk : DA}
theorem kitAny2U {K : PySem.W.Frag} {t a b : String} {x y : Bool} (h1 : kitB t a = some x) (h2 : kitB t b = some y) : PySem.W.kitAny K (.type t) [.type a, .type b] = some (x || y) :=
  kitAny_cons (b := x) (kit_ty h1) (fun hx => by subst hx; exact kitAny_cons (b := y) (kit_ty h2) (fun hy => by subst hy; rfl) (fun hy => by subst hy; rfl)) (fun hx => by subst hx; rfl)
theorem ce_isi2 (C : Cf X W sc N) (t u : Tn) {T U : Str} {p2 p3 p4 : Pos} {ek : Nat} (hg : glB sc "isinstance" = true) (hm : X.mg "isinstance" = none) (hgT : glB sc T = true) (hmT : X.mg T = none) (hgU : glB sc U = true) (hmU : X.mg U = none) (hv : bootBuiltins T = some (.type t.nm)) (hvU : bootBuiltins U = some (.type u.nm)) (ha : CE X W e f)
    (hnT : T ≠ "__name__" := by decide +kernel) (hdT : (T == ("__debug__" : Str)) = false := by decide +kernel) (hnU : U ≠ "__name__" := by decide +kernel) (hdU : (U == ("__debug__" : Str)) = false := by decide +kernel)
    (hst : starEach [e, .Tuple [.Name T p2, .Name U p3] ek p4] X.env = (false, eval e X.env) :: starEach [.Tuple [.Name T p2, .Name U p3] ek p4] X.env := by rfl) :
    CE X W (.Call (.Name "isinstance" p) [e, .Tuple [.Name T p2, .Name U p3] ek p4] [] pos) (dIsi [t, u] f) := fun Γ => by
  have hT : PE X (.Name T p2) (tC (.ty t.nm)) := pe_bltn (C.gl hgT) hmT hv rfl hnT hdT
  have hU : PE X (.Name U p3) (tC (.ty u.nm)) := pe_bltn (C.gl hgU) hmU hvU rfl hnU hdU
  refine pe_imp (pe_callB call_isiT (C.gl hg) hm PyProof.Rows.boot_isinstance (pa_cons (ha Γ) (pa_cons (pe_tup (pa_cons hT (pa_cons hU pa_nil rfl) rfl)) pa_nil rfl) hst) (by decide +kernel) (by decide +kernel) hst rfl) fun σ H Q ⟨G, S, q⟩ => ⟨G, S, (Pst.bind q).imp fun x G1 H1 e1 p1 v S1 hv => ?_⟩
  split at p1
  · rename_i d hd
    obtain ⟨hn, p1⟩ := Pst.req p1
    refine ⟨by show 2 ≤ sizeLine; decide, fun tp htp => ?_⟩
    obtain ⟨S2, e2⟩ := S1.grow (grow_new (o := .tup [.ty t.nm, .ty u.nm]) S1.w htp)
    have hh := dn_ty ((rdD_ok hd).ok S2 (AVok.ext hv e2)) hn
    refine ⟨v, tp, [.ty t.nm, .ty u.nm], .type (pyTy d), [.type t.nm, .type u.nm], tyIs d t || tyIs d u, rfl, upd_same, .cons (.ty t.nm) (.cons (.ty u.nm) .nil), hh, kitAny2U (tyIs_kit d t) (tyIs_kit d u), ?_⟩
    have := p1 _ _ e2 (.bl (tyIs d t || tyIs d u)) S2 (by show Dn _ _ _ _ (.bool (tyIs d t || (tyIs d u || false))); rw [Bool.or_false]; exact .bl _)
    exact this
  · exact p1.elim
end
end PD
set_option Elab.async false
set_option linter.all false
set_option maxRecDepth 100000
set_option maxHeartbeats 4000000
set_option autoImplicit false
namespace PD
open PySem PySem.Spec L2 Srt SrtO
open PyProof.Rows hiding St
section
variable {prog : Program} {w : World} {A : Around} {E : Value → Shared → Prop} {s : Shared} {l : Addr} {vs : List Value}
end
section
variable {X : Cx} {W : WX} {sc : Scope} {N : List Str} {a e : Expr} {p pos : Pos} {k : DA}
end
end PD
set_option Elab.async false
set_option linter.all false
set_option maxRecDepth 100000
set_option maxHeartbeats 4000000
set_option autoImplicit false
namespace PD
open PySem PySem.Spec L2
open PyProof.Rows hiding St
mutual
def eqN : PyData → PyData → Bool
  | .none, .none => true
  | .bool a, .bool b => a == b
  | .int a, .int b => decide (a = b)
  | .tuple a, .tuple b => eqNs a b
  | _, _ => false
def eqNs : List PyData → List PyData → Bool
  | [], [] => true
  | a :: as, b :: bs => eqN a b && eqNs as bs
  | _, _ => false
end
inductive NdRel (K : PySem.W.Frag) (G : Rg) (H : Hp) : List (NestedKey × Addr × V) → List (PyData × PyData) → Prop
  | nil : NdRel K G H [] []
  | cons {r : NestedKey × Addr × V} {rs : List (NestedKey × Addr × V)} {k v : PyData} {l : List (PyData × PyData)} : nkD k = some r.1 → r.1.depth ≤ 8 → Dn K G H (.ref r.2.1) k → Dn K G H r.2.2 v → NdRel K G H rs l → NdRel K G H (r :: rs) ((k, v) :: l)
theorem NdRel.mono {K : PySem.W.Frag} {G G' : Rg} {H H' : Hp} (g : RgLe G G') (t : TupLe H H') {rs : List (NestedKey × Addr × V)} {l : List (PyData × PyData)} (h : NdRel K G H rs l) : NdRel K G' H' rs l := by
  induction h with
  | nil => exact .nil
  | cons h1 h2 h3 h4 _ ih => exact .cons h1 h2 (h3.mono g t) (h4.mono g t) ih
theorem NdRel.len {K : PySem.W.Frag} {G : Rg} {H : Hp} {rs : List (NestedKey × Addr × V)} {l : List (PyData × PyData)} (n : NdRel K G H rs l) : rs.length = l.length := by
  induction n with
  | nil => rfl
  | cons _ _ _ _ _ ih => rw [List.length_cons, List.length_cons, ih]
def getN (l : List (PyData × PyData)) (k : PyData) : Option PyData := (l.find? fun z => decide (nkD z.1 = nkD k)).map (·.2)
def putN (l : List (PyData × PyData)) (k v : PyData) : List (PyData × PyData) := if l.any (fun z => decide (nkD z.1 = nkD k)) then l.map (fun z => if nkD z.1 = nkD k then (z.1, v) else z) else l ++ [(k, v)]
theorem NdRel.get {K : PySem.W.Frag} {G : Rg} {H : Hp} {k : PyData} {kk : NestedKey} (hk : nkD k = some kk) {rs : List (NestedKey × Addr × V)} {l : List (PyData × PyData)} (n : NdRel K G H rs l) : (ndGet rs kk = none ∧ getN l k = none) ∨ ∃ v d, ndGet rs kk = some v ∧ getN l k = some d ∧ Dn K G H v d := by
  induction n with
  | nil => exact .inl ⟨rfl, rfl⟩
  | @cons r rs k0 v0 l h1 h2 h3 h4 _ ih =>
    by_cases e : r.1 = kk
    · have e2 : nkD k0 = nkD k := by rw [h1, hk, e]
      exact .inr ⟨r.2.2, v0, by simp [ndGet, e], by simp [getN, e2], h4⟩
    · have e2 : ¬ nkD k0 = nkD k := by rw [h1, hk]; simpa using e
      have g1 : ndGet (r :: rs) kk = ndGet rs kk := by simp [ndGet, List.find?_cons, e]
      have g2 : getN ((k0, v0) :: l) k = getN l k := by simp [getN, List.find?_cons, e2]
      rw [g1, g2]; exact ih
theorem NdRel.any {K : PySem.W.Frag} {G : Rg} {H : Hp} {k : PyData} {kk : NestedKey} (hk : nkD k = some kk) {rs : List (NestedKey × Addr × V)} {l : List (PyData × PyData)} (n : NdRel K G H rs l) : rs.any (fun r => decide (r.1 = kk)) = l.any (fun z => decide (nkD z.1 = nkD k)) := by
  induction n with
  | nil => rfl
  | @cons r rs k0 v0 l h1 h2 h3 h4 _ ih =>
    rw [List.any_cons, List.any_cons, ih]
    congr 1
    rw [decide_eq_decide, h1, hk]
    simp
theorem NdRel.put1 {K : PySem.W.Frag} {G : Rg} {H : Hp} {k v : PyData} {kk : NestedKey} {y : V} (hk : nkD k = some kk) (hv : Dn K G H y v) {rs : List (NestedKey × Addr × V)} {l : List (PyData × PyData)} (n : NdRel K G H rs l) : NdRel K G H (rs.map (fun r => if r.1 = kk then (r.1, r.2.1, y) else r)) (l.map (fun z => if nkD z.1 = nkD k then (z.1, v) else z)) := by
  induction n with
  | nil => exact .nil
  | @cons r rs k0 v0 l h1 h2 h3 h4 _ ih =>
    rw [List.map_cons, List.map_cons]
    by_cases e : r.1 = kk
    · have e2 : nkD k0 = nkD k := by rw [h1, hk, e]
      rw [if_pos e, if_pos e2]
      exact .cons h1 h2 h3 hv ih
    · have e2 : ¬ nkD k0 = nkD k := by rw [h1, hk]; simpa using e
      rw [if_neg e, if_neg e2]
      exact .cons h1 h2 h3 h4 ih
theorem NdRel.put2 {K : PySem.W.Frag} {G : Rg} {H : Hp} {k v : PyData} {kk : NestedKey} {b : Addr} {y : V} (hk : nkD k = some kk) (hd : kk.depth ≤ 8) (hb : Dn K G H (.ref b) k) (hv : Dn K G H y v) {rs : List (NestedKey × Addr × V)} {l : List (PyData × PyData)} (n : NdRel K G H rs l) : NdRel K G H (rs ++ [(kk, b, y)]) (l ++ [(k, v)]) := by
  induction n with
  | nil => exact .cons hk hd hb hv .nil
  | cons h1 h2 h3 h4 _ ih => exact .cons h1 h2 h3 h4 ih
theorem NdRel.put {K : PySem.W.Frag} {G : Rg} {H : Hp} {k v : PyData} {kk : NestedKey} {b : Addr} {y : V} (hk : nkD k = some kk) (hd : kk.depth ≤ 8) (hb : Dn K G H (.ref b) k) (hv : Dn K G H y v) {rs : List (NestedKey × Addr × V)} {l : List (PyData × PyData)} (n : NdRel K G H rs l) : NdRel K G H (ndPut rs kk b y) (putN l k v) := by
  unfold ndPut putN
  rw [n.any hk]
  split
  · exact n.put1 hk hv
  · exact n.put2 hk hd hb hv
def nkOk (k : PyData) : Bool := match k with
  | .tuple _ => match nkD k with
    | some kk => decide (kk.depth ≤ 8)
    | none => false
  | _ => false
section
variable {X : Cx} {W : WX} {sc : Scope} {N : List Str} {a b c e : Expr} {pos : Pos} {f g : DF}
end
end PD
set_option Elab.async false
set_option linter.all false
set_option maxRecDepth 100000
set_option maxHeartbeats 4000000
set_option autoImplicit false
namespace PD
open PySem PySem.Spec L2
open PyProof.Rows hiding St
theorem NdRel.at {K : PySem.W.Frag} {G : Rg} {H : Hp} {rs : List (NestedKey × Addr × V)} {l : List (PyData × PyData)} (n : NdRel K G H rs l) : ∀ {i : Nat} {r : NestedKey × Addr × V}, rs[i]? = some r → ∃ z, l[i]? = some z ∧ Dn K G H (.ref r.2.1) z.1 := by
  induction n with
  | nil => intro i r h; simp at h
  | @cons r0 rs k v l h1 h2 h3 h4 _ ih =>
    intro i r h
    cases i with
    | zero =>
      have : r0 = r := by simpa using h
      subst this
      exact ⟨(k, v), rfl, h3⟩
    | succ j => exact ih (by simpa using h)
section
variable {X : Cx} {W : WX} {sc : Scope} {N : List Str} {e tg : Expr} {f : DF}
end
end PD
set_option Elab.async false
set_option linter.all false
set_option maxRecDepth 100000
set_option maxHeartbeats 4000000
set_option autoImplicit false
namespace PD
open PySem PySem.Spec L2 Srt SrtO
open PySem.W (alike AllAlike Sortable dataLe EachIs)
open PyProof.Rows hiding St
section
variable {X : Cx} {pins : List (Addr × Obj)} {σ : St} {H : Hp} {s : Shared}
end
section
variable {X : Cx} {W : WX} {sc : Scope} {N : List Str} {a e : Expr} {p pos : Pos} {k : DA}
end
end PD
set_option Elab.async false
set_option linter.all false
set_option maxRecDepth 100000
set_option maxHeartbeats 4000000
set_option autoImplicit false
namespace PD
open PySem PySem.Spec L2
open PyProof.Rows hiding St
section
variable {X : Cx} {W : WX} {sc : Scope} {N : List Str} {e : Expr} {f : DX}
end
end PD
set_option Elab.async false
set_option linter.all false
set_option maxRecDepth 100000
set_option maxHeartbeats 4000000
set_option autoImplicit false
namespace PD
open PySem PySem.Spec L2
open PyProof.Rows hiding St
section
variable {X : Cx} {W : WX} {sc : Scope} {N : List Str} {a b : Expr} {pos : Pos} {f g : DF}
end
end PD
set_option Elab.async false
set_option linter.all false
set_option maxRecDepth 100000
set_option maxHeartbeats 4000000
set_option autoImplicit false
namespace PD
open PySem L2
section
variable {X : Cx} {W : WX} {sc : Scope} {N : List Str} {s : Stmt} {ss : List Stmt} {b : DS}
def lentL (Γ : List Sl) (i : Nat) : Option (List PyData) := match Γ[i]? with
  | some (.lent (.lst ds)) => some ds
  | _ => none
variable {tg : Expr} {x : Str} {p p2 pos : Pos}
end
end PD
set_option Elab.async false
set_option linter.all false
set_option maxRecDepth 100000
set_option maxHeartbeats 4000000
set_option autoImplicit false
namespace PD
open PySem L2
section
variable {X : Cx} {pins : List (Addr × Obj)} {σ : St} {H : Hp} {s : Shared} {a b : Addr} {u r : Value} {d : V} {k : List Key} {A : Around} {E : Value → Shared → Prop}
end
inductive LsOk (K : PySem.W.Frag) (G : Rg) (H : Hp) : List Addr → List (List PyData) → Prop
  | nil : LsOk K G H [] []
  | cons {q : Addr} {qs : List Addr} {xs : List V} {ds : List PyData} {l : List (List PyData)} : H q = some (.lst xs) → DnA K G H xs ds → LsOk K G H qs l → LsOk K G H (q :: qs) (ds :: l)
theorem LsOk.mono {K : PySem.W.Frag} {G G' : Rg} {H H' : Hp} (g : RgLe G G') (t : TupLe H H') {qs : List Addr} {l : List (List PyData)} (h : LsOk K G H qs l) : (∀ q ∈ qs, H' q = H q) → LsOk K G' H' qs l := by
  induction h with
  | nil => exact fun _ => .nil
  | cons a b _ ih => exact fun k => .cons (by rw [k _ List.mem_cons_self]; exact a) (b.mono g t) (ih fun q hq => k q (List.mem_cons_of_mem _ hq))
theorem LsOk.get {K : PySem.W.Frag} {G : Rg} {H : Hp} {qs : List Addr} {l : List (List PyData)} (h : LsOk K G H qs l) : ∀ {i : Nat} {q : Addr}, qs[i]? = some q → ∃ xs ds, l[i]? = some ds ∧ H q = some (.lst xs) ∧ DnA K G H xs ds := by
  induction h with
  | nil => intro i q e; simp at e
  | cons a b _ ih =>
    intro i q e
    cases i with
    | zero => cases e; exact ⟨_, _, rfl, a, b⟩
    | succ i => exact ih (by simpa using e)
theorem LsOk.set {K : PySem.W.Frag} {G : Rg} {H : Hp} {qs : List Addr} {l : List (List PyData)} (h : LsOk K G H qs l) : ∀ {i : Nat} {q : Addr} {xs : List V} {ds : List PyData}, qs[i]? = some q → qs.Nodup → H q ≠ none → (∀ ys, H q ≠ some (.tup ys)) → DnA K G H xs ds → LsOk K G (upd H q (.lst xs)) qs (l.set i ds) := by
  induction h with
  | nil => intro i q xs ds e; simp at e
  | @cons q0 qs0 xs0 ds0 l0 a b c ih =>
    intro i q xs ds e nd hq ht hd
    obtain ⟨n1, n2⟩ := List.nodup_cons.mp nd
    have t : TupLe H (upd H q (.lst xs)) := fun c ys z => by
      have : c ≠ q := fun w => by rw [w] at z; exact ht ys z
      rw [upd_ne this]; exact z
    cases i with
    | zero =>
      cases e
      exact .cons upd_same (hd.mono (fun _ _ z => z) t) (c.mono (fun _ _ z => z) t fun c hc => upd_ne (fun w => n1 (by rw [← w]; exact hc)))
    | succ i =>
      have e : qs0[i]? = some q := by simpa using e
      have ne : q0 ≠ q := fun w => n1 (by rw [w]; exact List.mem_of_getElem? e)
      exact .cons (by rw [upd_ne ne]; exact a) (b.mono (fun _ _ z => z) t) (ih e n2 hq ht hd)
theorem LsOk.snoc {K : PySem.W.Frag} {G : Rg} {H : Hp} {q : Addr} {xs : List V} {ds : List PyData} {qs : List Addr} {l : List (List PyData)} (h : LsOk K G H qs l) (hq : H q = some (.lst xs)) (hd : DnA K G H xs ds) : LsOk K G H (qs ++ [q]) (l ++ [ds]) := by
  induction h with
  | nil => exact .cons hq hd .nil
  | cons a b _ ih => exact .cons a b ih
theorem LsOk.nt {K : PySem.W.Frag} {G : Rg} {H : Hp} {qs : List Addr} {l : List (List PyData)} (h : LsOk K G H qs l) : ∀ q ∈ qs, ∃ xs, H q = some (.lst xs) := by
  induction h with
  | nil => intro q hq; cases hq
  | cons a b _ ih =>
    intro q hq
    rcases List.mem_cons.mp hq with rfl | hq
    · exact ⟨_, a⟩
    · exact ih q hq
section
variable {X : Cx} {W : WX} {sc : Scope} {N : List Str} {x y : Str} {e : Expr} {pos lpos p1 p2 a1 a2 c1 c2 : Pos} {fk : DF}
end
end PD
set_option Elab.async false
set_option linter.all false
set_option maxRecDepth 100000
set_option maxHeartbeats 4000000
set_option autoImplicit false
namespace PD
open PySem PySem.Spec L2 Srt SrtO
open PySem.W (alike AllAlike Sortable dataLe EachIs dataLt)
open PyProof.Rows hiding St
section
variable {X : Cx}
end
section
variable {X : Cx} {W : WX} {sc : Scope} {N : List Str} {a b c e : Expr} {pos p : Pos} {f g : DF} {k : DA}
end
section
variable {prog : Program} {w : World} {A : Around} {E : Value → Shared → Prop} {s : Shared} {β : Type} {vs : List Value} {bs : List β} {enc : β → PyData} {R : Value → β → Prop}
open PySem.W
end
section
variable {X : Cx} {W : WX} {sc : Scope} {N : List Str} {a e e2 : Expr} {p pos : Pos} {k : DA}
end
end PD
set_option Elab.async false
set_option linter.all false
set_option maxRecDepth 100000
set_option maxHeartbeats 4000000
set_option autoImplicit false
namespace PD
open PySem PySem.Spec L2
open PySem.W (alike dataLt AlikeAll minD)
open PyProof.Rows hiding St
section
variable {X : Cx} {W : WX} {sc : Scope} {N : List Str} {a b e e2 : Expr} {p pos : Pos} {k : DA} {f g : DF}
end
section
variable {X : Cx} {W : WX} {sc : Scope} {N : List Str} {x y : Str} {p p2 pos apos cpos : Pos}
end
def mulD (l : List (PyData × List PyData)) : List (PyData × PyData) := l.map fun z => (z.1, .list z.2)
theorem LsOk.dna {K : PySem.W.Frag} {G : Rg} {H : Hp} {qs : List Addr} {l : List (List PyData)} (h : LsOk K G H qs l) {G' : Rg} (g : RgLe G G') (k : ∀ q ∈ qs, ∀ o, H q = some o → G' q o) : DnA K G' H (qs.map V.ref) (l.map PyData.list) := by
  induction h with
  | nil => exact .nil
  | cons a b _ ih => exact .cons (.lst (.inl (k _ List.mem_cons_self _ a)) (b.mono g (TupLe.rf _))) (ih fun q hq => k q (List.mem_cons_of_mem _ hq))
section
variable {X : Cx} {W : WX} {sc : Scope} {N : List Str} {ss : List Stmt} {g : DS}
end
end PD
set_option Elab.async false
set_option linter.all false
set_option maxRecDepth 100000
set_option maxHeartbeats 4000000
set_option autoImplicit false
namespace PD
open PySem L2
section
variable {X : Cx} {W : WX} {sc : Scope} {N : List Str} {e : Expr} {pos p1 : Pos} {x : Str}
end
end PD
set_option Elab.async false
set_option linter.all false
set_option maxRecDepth 100000
set_option maxHeartbeats 4000000
set_option autoImplicit false
namespace PySem
section
variable {prog : Program} {w : World} {A : Around} {E : Value → Shared → Prop} {s : Shared} {d : Addr} {es : Array DictEntry} {ep : Nat}
end
end PySem
namespace PD
open PySem L2
section
variable {X : Cx} {W : WX} {sc : Scope} {N : List Str} {e : Expr} {pos p : Pos} {k : DA}
end
end PD
set_option Elab.async false
set_option linter.all false
set_option maxRecDepth 100000
set_option maxHeartbeats 4000000
set_option autoImplicit false
namespace PD
open PySem L2
section
variable {K : PySem.W.Frag} {G : Rg} {H : Hp} {fp : List Addr}
theorem ItsOk.app (l : List Addr) : ∀ {vs : List V} {nd : List Itm}, ItsOk K G H fp vs nd → ItsOk K G H (fp ++ l) vs nd
  | _, _, .nil => .nil
  | _, _, .d h a => .d h (ItsOk.app l a)
  | _, _, .r h a => .r (by rw [List.getElem?_append_left (List.getElem?_eq_some_iff.mp h).1]; exact h) (ItsOk.app l a)
theorem ItsOk.append : ∀ {vs ws : List V} {nd ne : List Itm}, ItsOk K G H fp vs nd → ItsOk K G H fp ws ne → ItsOk K G H fp (vs ++ ws) (nd ++ ne)
  | _, _, _, _, .nil, b => b
  | _, _, _, _, .d h a, b => .d h (ItsOk.append a b)
  | _, _, _, _, .r h a, b => .r h (ItsOk.append a b)
theorem ItsOk.length : ∀ {vs : List V} {nd : List Itm}, ItsOk K G H fp vs nd → vs.length = nd.length
  | _, _, .nil => rfl
  | _, _, .d _ a => by simp [a.length]
  | _, _, .r _ a => by simp [a.length]
theorem ItsOk.erase : ∀ {vs : List V} {nd : List Itm} (i : Nat), ItsOk K G H fp vs nd → ItsOk K G H fp (vs.eraseIdx i) (nd.eraseIdx i)
  | _, _, _, .nil => .nil
  | _, _, 0, .d h a => a
  | _, _, 0, .r h a => a
  | _, _, i + 1, .d h a => .d h (ItsOk.erase i a)
  | _, _, i + 1, .r h a => .r h (ItsOk.erase i a)
end
section
variable {K : PySem.W.Frag} {G : Gh} {H : Hp} {σ : St} {Γ : List Sl} {A : Nat → List Addr} {i j k : Nat} {ns : List (List Itm)} {nd : List Itm} {vs : List V} {p : Addr} {ds : List PyData}
end
abbrev DR := List Sl → R (Nat × List Sl)
section
variable {X : Cx} {W : WX} {sc : Scope} {N : List Str} {e e2 : Expr} {es : List Expr} {apos cpos pos p p2 : Pos} {k : DA} {f : DF} {g : DS} {ss : List Stmt} {x y : Str} {i j : Nat} {r : DR}
def rdR (X : Cx) (W : WX) (Γ : List Sl) (j : Nat) (m : R (Nat × List Sl)) : TE := fun σ H Q => ∃ G, Sta X.K G H σ Γ ∧ Pst X W G H σ m fun r G' H' => ∀ A p ns, StaA X.K G' H' σ r.2 A → r.2[j]? = some (Sl.pool ns) → (A j)[r.1]? = some p → Q (.ref p) H'
def CR (X : Cx) (W : WX) (j : Nat) (e : Expr) (r : DR) : Prop := ∀ Γ, PE X e (rdR X W Γ j (r Γ))
end
end PD
set_option Elab.async false
set_option linter.all false
set_option maxRecDepth 100000
set_option maxHeartbeats 4000000
set_option autoImplicit false
namespace PD
open PySem L2
section
variable {X : Cx} {W : WX} {sc : Scope} {N : List Str} {e : Expr} {es : List Expr} {apos cpos pos p p2 : Pos} {k : DA} {f : DF}
end
theorem TresOk.snoc {K : PySem.W.Frag} {G : Rg} {H : Hp} {v : V} {x : PyData} (hx : Dn K G H v x) : ∀ {vs : List V} {fp : List Addr} {ts : List Tre}, TresOk K G H vs fp ts → TresOk K G H (vs ++ [v]) fp (ts ++ [.d x])
  | _, _, _, .nil => .cons (f1 := []) (f2 := []) (.d hx) .nil (by simp)
  | _, _, _, .cons h a n => .cons h (TresOk.snoc hx a) n
theorem TresOk.length {K : PySem.W.Frag} {G : Rg} {H : Hp} : ∀ {vs : List V} {fp : List Addr} {ts : List Tre}, TresOk K G H vs fp ts → vs.length = ts.length
  | _, _, _, .nil => rfl
  | _, _, _, .cons _ a _ => by simp [TresOk.length a]
section
variable {X : Cx} {W : WX} {sc : Scope} {N : List Str} {e : Expr} {es : List Expr} {apos cpos pos ipos p p2 : Pos} {k : DA} {f : DF} {x : Str}
end
end PD
set_option Elab.async false
set_option linter.all false
set_option maxRecDepth 100000
set_option maxHeartbeats 4000000
set_option autoImplicit false
namespace PD
open PySem L2
section
variable {X : Cx} {W : WX} {sc : Scope} {N : List Str} {a : Expr} {pos p : Pos} {f : DF}
end
end PD
set_option Elab.async false
set_option linter.all false
set_option maxRecDepth 100000
set_option maxHeartbeats 4000000
set_option autoImplicit false
namespace PD
open PySem L2 RT
section
variable {X : Cx} {W : WX} {sc : Scope} {N : List Str} {e tg : Expr} {pos p : Pos} {f : DF}
end
end PD
set_option Elab.async false
set_option linter.all false
set_option maxRecDepth 100000
set_option maxHeartbeats 4000000
set_option autoImplicit false
namespace HT
open PySem PySem.Spec PyProof.Rows
section
variable {prog : Program} {w : World} {A : Around} {E : Value → Shared → Prop} {s : Shared}
end
end HT
namespace PD
open PySem PySem.Spec L2
open PyProof.Rows hiding St
section
variable {X : Cx} {W : WX} {sc : Scope} {N : List Str} {a : Expr} {p1 p2 p3 pos : Pos} {f : DF}
end
end PD
set_option Elab.async false
set_option linter.all false
set_option maxRecDepth 100000
set_option maxHeartbeats 4000000
set_option autoImplicit false
namespace PD
open PySem PySem.Spec L2
open PyProof.Rows hiding St
structure InsC (K : PySem.W.Frag) (c : Str) (fs : List Str) : Prop where
  cls : Cls K (He.ga K c)
  no : ∀ f ∈ fs, NoAttr K (He.ga K c) f
  mks : PySem.W.makesIn K (He.ga K c) = true
  kp : PySem.W.keepIn K (.ref (He.ga K c)) = true
def methB (K : PySem.W.Frag) (c m : Str) : Bool := decide (PySem.W.findIn K (.ref (He.ga K c)) m = some (some (.ref (He.fAd K (c, some m))))) && (PySem.W.isFn K (.ref (He.fAd K (c, some m))) && PySem.W.keepIn K (.ref (He.fAd K (c, some m))))
theorem methB_ok {K : PySem.W.Frag} {c m : Str} (h : methB K c m = true) : Meth K (He.ga K c) m (He.fAd K (c, some m)) := by
  unfold methB at h
  simp only [Bool.and_eq_true, decide_eq_true_eq] at h
  exact ⟨h.1, h.2.1, h.2.2⟩
section
variable {X : Cx} {W : WX} {sc : Scope} {N : List Str} {a b e o : Expr} {es : List Expr} {apos cpos pos p p2 : Pos} {k : DA} {f g : DF} {s : Stmt} {cl : List (Str × List Str)}
end
end PD
set_option Elab.async false
set_option linter.all false
set_option maxRecDepth 100000
set_option maxHeartbeats 4000000
set_option autoImplicit false
namespace PD
open PySem PySem.Spec L2
open PyProof.Rows hiding St
section
variable {X : Cx} {W : WX} {sc : Scope} {N : List Str} {a b e o : Expr} {es : List Expr} {apos cpos pos p p2 pos' tpos : Pos} {f g fe fi : DF} {s : Stmt} {cl : List (Str × List Str)} {x n : Str}
end
end PD
set_option Elab.async false
set_option linter.all false
set_option maxRecDepth 100000
set_option maxHeartbeats 4000000
set_option autoImplicit false
namespace PD
open PySem PySem.Spec L2
open PyProof.Rows hiding St
abbrev DK := List Sl → Option (Bool × PyData)
section
variable {X : Cx} {W : WX} {sc : Scope} {N : List Str} {a b e o : Expr} {es : List Expr} {apos cpos pos p p2 pos' tpos : Pos} {f g fe fi : DF} {s : Stmt} {cl : List (Str × List Str)} {x n : Str} {r : DK}
end
end PD
set_option Elab.async false
set_option linter.all false
set_option maxRecDepth 100000
set_option maxHeartbeats 4000000
set_option autoImplicit false
namespace PD
open PySem PySem.Spec L2
open PyProof.Rows hiding St
section
variable {X : Cx} {CX : CXT} {k : Nat} {f C : Addr} {fd : FuncData} {ps : List Str} {sp : Sp} {dvs : List V} {ds : List Value} {E : St → XK} {x m : Str} {p pos apos : Pos} {e o : Expr} {es : List Expr} {ta : TE} {t : TA}
end
def CleeM (X : Cx) (c mn : Str) (dvs : List V) (sp : Sp) : Prop :=
  ∃ (k : Nat) (f : Addr) (fd : FuncData) (ps : List Str) (ds : List Value), FnOk X.prog X.w X.K X.mg X.base (L2.CX X.prog X.w) k f fd ps sp ∧ Room k X.A ∧ Cls X.K (He.ga X.K c) ∧ Meth X.K (He.ga X.K c) mn f ∧ Binds X.K fd ps ds ∧ Vals dvs ds
def CleeI (X : Cx) (c : Str) (dvs : List V) (sp : Sp) : Prop :=
  ∃ (k : Nat) (f : Addr) (fd : FuncData) (ps : List Str) (ds : List Value), FnOk X.prog X.w X.K X.mg X.base (L2.CX X.prog X.w) k f fd ps sp ∧ Room (k + 1) X.A ∧ X.mg c = some (.ref (He.ga X.K c)) ∧ Mk X.K (He.ga X.K c) f ∧ Binds X.K fd ps ds ∧ Vals dvs ds
def GvM (P : Program) (w : World) (K : PySem.W.Frag) (mg : Str → Option Value) (base : Heap) (k : Nat) (c mn : Str) (dvs : List V) (sp : Sp) : Prop :=
  ∃ (f : Addr) (fd : FuncData) (ps : List Str) (ds : List Value), FnOk P w K mg base (L2.CX P w) k f fd ps sp ∧ Cls K (He.ga K c) ∧ Meth K (He.ga K c) mn f ∧ Binds K fd ps ds ∧ Vals dvs ds
def GvI (P : Program) (w : World) (K : PySem.W.Frag) (mg : Str → Option Value) (base : Heap) (k : Nat) (c : Str) (dvs : List V) (sp : Sp) : Prop :=
  ∃ (f : Addr) (fd : FuncData) (ps : List Str) (ds : List Value), FnOk P w K mg base (L2.CX P w) k f fd ps sp ∧ mg c = some (.ref (He.ga K c)) ∧ Mk K (He.ga K c) f ∧ Binds K fd ps ds ∧ Vals dvs ds
section
variable {P : Program} {w : World} {K : PySem.W.Frag} {mg : Str → Option Value} {base : Heap} {k k' : Nat} {c mn : Str} {dvs : List V} {sp : Sp} {X : Cx} {W : WX} {scope : Scope} {N fs : List Str} {fd : FuncData} {ps : List Str} {ds : List Value} {m : List Ar → R (Rs × List Sl)}
theorem GvM.of (I : InsC K c fs) (hm : methB K c mn = true) (ok : FnOk P w K mg base (L2.CX P w) k (He.fAd K (c, some mn)) fd ps sp) (b : Binds K fd ps ds) (hv : Vals dvs ds) : GvM P w K mg base k c mn dvs sp :=
  ⟨_, fd, ps, ds, ok, I.cls, methB_ok hm, b, hv⟩
theorem GvI.of (I : InsC K c fs) (hm : methB K c "__init__" = true) (hg : mg c = some (.ref (He.ga K c))) (ok : FnOk P w K mg base (L2.CX P w) k (He.fAd K (c, some "__init__")) fd ps sp) (b : Binds K fd ps ds) (hv : Vals dvs ds) : GvI P w K mg base k c dvs sp :=
  ⟨_, fd, ps, ds, ok, hg, ⟨I.mks, (methB_ok hm).at_, (methB_ok hm).fn, I.kp⟩, b, hv⟩
theorem GvM.u (g : GvM P w K mg base k c mn dvs (spU K mg m)) (h : Here X W P w K mg base scope N k') (hk : k ≤ k') : CleeM X c mn dvs (spU X.K X.mg m) := by
  obtain ⟨f, fd, ps, ds, h1, h2, h3, h4, h5⟩ := g
  have e1 := h.prog
  have e2 := h.w
  have e3 := h.K
  have e4 := h.mg
  have e5 := h.base
  subst e1 e2 e3 e4 e5
  exact ⟨k, f, fd, ps, ds, h1, h.room.mono hk, h2, h3, h4, h5⟩
theorem GvI.u (g : GvI P w K mg base k c dvs (spU K mg m)) (h : Here X W P w K mg base scope N k') (hk : k + 1 ≤ k') : CleeI X c dvs (spU X.K X.mg m) := by
  obtain ⟨f, fd, ps, ds, h1, h2, h3, h4, h5⟩ := g
  have e1 := h.prog
  have e2 := h.w
  have e3 := h.K
  have e4 := h.mg
  have e5 := h.base
  subst e1 e2 e3 e4 e5
  exact ⟨k, f, fd, ps, ds, h1, h.room.mono hk, h2, h3, h4, h5⟩
theorem CleeM.tr (h : CleeM X c mn dvs sp) {pn : List (Addr × Obj)} {xe : Value → Shared → Prop} : CleeM (X.tr pn xe) c mn dvs sp := h
theorem CleeI.tr (h : CleeI X c dvs sp) {pn : List (Addr × Obj)} {xe : Value → Shared → Prop} : CleeI (X.tr pn xe) c dvs sp := h
theorem CleeM.blk (h : CleeM X c mn dvs sp) {s : Shared} {H : Hp} {scope : Scope} {ce : Env} {fp : List Addr} : CleeM (X.blk s H scope ce fp) c mn dvs sp := h
theorem CleeI.blk (h : CleeI X c dvs sp) {s : Shared} {H : Hp} {scope : Scope} {ce : Env} {fp : List Addr} : CleeI (X.blk s H scope ce fp) c dvs sp := h
end
section
variable {X : Cx} {W : WX} {sc : Scope} {N : List Str} {e o : Expr} {es : List Expr} {apos p pos : Pos} {x c n : Str} {fe : DF} {k : DA} {dvs : List V} {dds : List PyData} {m : List Ar → R (Rs × List Sl)} {ms : List Bool}
end
end PD
set_option Elab.async false
set_option linter.all false
set_option maxRecDepth 100000
set_option maxHeartbeats 4000000
set_option autoImplicit false
namespace PD
open PySem PySem.Spec L2 Srt SrtO
open PySem.W (alike AllAlike Sortable dataLe EachIs)
open PyProof.Rows hiding St
section
variable {P : Program} {w : World} {A : Around} {E : Value → Shared → Prop} {s : Shared}
end
section
variable {X : Cx} {W : WX} {sc : Scope} {N : List Str} {a e : Expr} {p pos : Pos} {f : DF}
end
end PD
set_option Elab.async false
set_option linter.all false
set_option maxRecDepth 100000
set_option maxHeartbeats 4000000
set_option autoImplicit false
namespace PD
open PySem L2
section
variable {X : Cx} {W : WX} {sc : Scope} {N : List Str} {e : Expr} {pos : Pos} {f : DX}
end
end PD
set_option Elab.async false
set_option linter.all false
set_option maxRecDepth 100000
set_option maxHeartbeats 4000000
set_option autoImplicit false
namespace SrtK
open PySem PySem.W PySem.Calls PyProof.Rows
section
variable {prog : Program} {w : World} {A : Around} {E : Value → Shared → Prop} {a : Addr} {vs : List Value} {kz : List Int} {f : Value} {P : PySem.Fin → Shared → Prop}
end
end SrtK
namespace PD
open PySem L2
section
open PySem.W PySem.Calls PyProof.Rows
variable {X : Cx} {pins : List (Addr × Obj)} {σ : L2.St} {H : Hp} {s : Shared} {Q : VK}
end
end PD
namespace PD
open PySem L2
def CleeS (X : Cx) (x : Str) (sp : Sp) : Prop :=
  ∃ (k : Nat) (f : Addr) (fd : FuncData) (ps : List Str), FnOk X.prog X.w X.K X.mg X.base (L2.CX X.prog X.w) k f fd ps sp ∧ Room (k + 2) X.A ∧ X.mg x = some (.ref f) ∧ Binds X.K fd ps []
section
variable {X : Cx} {W : WX} {sc : Scope} {N : List Str} {e : Expr} {p py pos kpos : Pos} {f : DF} {y : Str} {m : List Ar → R (Rs × List Sl)}
end
theorem Gv.key {P : Program} {w : World} {K : PySem.W.Frag} {mg : Str → Option Value} {base : Heap} {k k' : Nat} {x : Str} {m : List Ar → R (Rs × List Sl)} {scope : Scope} {X : Cx} {W : WX} {N : List Str} (g : Gv P w K mg base k x [] (spU K mg m)) (h : Here X W P w K mg base scope N k') (hk : k + 2 ≤ k') : CleeS X x (spU X.K X.mg m) := by
  obtain ⟨f, fd, ps, ds, g1, g2, g3, g4, g5⟩ := g
  cases g5
  rw [h.K, h.mg]
  refine ⟨k, f, fd, ps, ?_, h.room.mono hk, ?_, ?_⟩
  · rw [h.prog, h.w, h.K, h.mg, h.base]; exact g1
  · rw [h.mg]; exact g2
  · rw [h.K]; exact g4
end PD
set_option Elab.async false
set_option linter.all false
set_option maxRecDepth 100000
set_option maxHeartbeats 4000000
set_option autoImplicit false
namespace PD
open PySem L2
section
variable {X : Cx} {W : WX} {sc : Scope} {N : List Str} {e e1 : Expr} {p pos : Pos} {f : DF} {r : DK} {cl : List (Str × List Str)}
end
end PD
set_option Elab.async false
set_option linter.all false
set_option maxRecDepth 100000
set_option maxHeartbeats 4000000
set_option autoImplicit false
namespace PD
open PySem PySem.Spec L2
open PyProof.Rows hiding St
theorem TresOk.split {K : PySem.W.Frag} {G : Rg} {H : Hp} {t : Tre} : ∀ (ts : List Tre) {vs : List V} {fp : List Addr}, TresOk K G H vs fp (ts ++ [t]) → ∃ vs1 v f1 f2, vs = vs1 ++ [v] ∧ TresOk K G H vs1 f1 ts ∧ TreOk K G H v f2 t ∧ (∀ a, a ∈ fp ↔ a ∈ f1 ∨ a ∈ f2) ∧ ∀ p ∈ f1, p ∉ f2
  | [], vs, fp, h => by
    have h : TresOk K G H vs fp [t] := h
    cases h with
    | @cons v vs2 f1 f2 _ _ h1 a n =>
      cases a
      exact ⟨[], v, [], f1, rfl, .nil, h1, fun a => by simp, fun p hp => by cases hp⟩
  | t1 :: ts, vs, fp, h => by
    have h : TresOk K G H vs fp (t1 :: (ts ++ [t])) := h
    cases h with
    | @cons v vs2 f1 f2 _ _ h1 a n =>
      obtain ⟨vs1, w, g1, g2, rfl, b1, b2, b3, b4⟩ := TresOk.split ts a
      refine ⟨v :: vs1, w, f1 ++ g1, g2, rfl, .cons h1 b1 (fun p hp z => n p hp ((b3 p).mpr (.inl z))), b2, fun a => ?_, fun p hp => ?_⟩
      · rw [List.mem_append, List.mem_append, b3, or_assoc]
      · rcases List.mem_append.mp hp with z | z
        · exact fun q => n p z ((b3 p).mpr (.inr q))
        · exact b4 p z
section
variable {X : Cx} {W : WX} {sc : Scope} {N : List Str} {e tg : Expr} {f : DX} {apos cpos : Pos}
end
end PD
set_option Elab.async false
set_option linter.all false
set_option maxRecDepth 100000
set_option maxHeartbeats 4000000
set_option autoImplicit false
namespace PD
open PySem PySem.Spec L2 Srt SrtO
open PySem.W
open PyProof.Rows hiding St
section
variable {prog : Program} {w : World} {A : Around} {s : Shared}
variable {β : Type} {vs : List Value} {bs : List β} {enc : β → PyData} {R : Value → β → Prop} {E : Value → Shared → Prop}
end
section
variable {X : Cx} {W : WX} {sc : Scope} {N : List Str} {a e : Expr} {p pos : Pos} {k : DA}
end
end PD
set_option Elab.async false
set_option linter.all false
set_option maxRecDepth 100000
set_option maxHeartbeats 4000000
set_option autoImplicit false
namespace PD
open PySem PySem.Spec L2
open PyProof.Rows hiding St
section
variable {X : Cx} {W : WX} {a b : Expr} {pos : Pos} {f : DN} {g : DF}
end
end PD
set_option Elab.async false
set_option linter.all false
set_option maxRecDepth 100000
set_option maxHeartbeats 4000000
set_option autoImplicit false
namespace PD
open PySem L2
section
variable {X : Cx} {W : WX} {sc : Scope} {N : List Str} {a b c e : Expr} {es : List Expr} {pos p : Pos} {f : DF} {x : Str} {dvs : List V} {dds : List PyData} {m : List Ar → R (Rs × List Sl)} {kws : List Keyword} {ks : List Str} {n : Nat} {pm : List Nat} {k kk : DA}
end
end PD
set_option Elab.async false
set_option linter.all false
set_option maxRecDepth 100000
set_option maxHeartbeats 4000000
set_option autoImplicit false
namespace PD
open PySem PySem.Spec L2
open PyProof.Rows hiding St
section
variable {X : Cx} {pins : List (Addr × Obj)} {σ : St} {H : Hp} {s : Shared} {a b : Addr} {r : Value} {d : V} {k : NestedKey} {A : Around} {E : Value → Shared → Prop} {rs : List (NestedKey × Addr × V)}
end
inductive MnRel (K : PySem.W.Frag) (G : Rg) (H : Hp) : List (NestedKey × Addr × V) → List Addr → List (PyData × List PyData) → Prop
  | nil : MnRel K G H [] [] []
  | cons {r : NestedKey × Addr × V} {rs : List (NestedKey × Addr × V)} {q : Addr} {qs : List Addr} {k : PyData} {xs : List V} {ds : List PyData} {l : List (PyData × List PyData)} :
      nkD k = some r.1 → r.1.depth ≤ 8 → Dn K G H (.ref r.2.1) k → r.2.2 = .ref q → H q = some (.lst xs) → DnA K G H xs ds → MnRel K G H rs qs l → MnRel K G H (r :: rs) (q :: qs) ((k, ds) :: l)
section
variable {K : PySem.W.Frag} {G G' : Rg} {H H' : Hp} {rs : List (NestedKey × Addr × V)} {qs : List Addr} {l : List (PyData × List PyData)}
theorem MnRel.mono (g : RgLe G G') (t : TupLe H H') (h : MnRel K G H rs qs l) : (∀ q ∈ qs, H' q = H q) → MnRel K G' H' rs qs l := by
  induction h with
  | nil => exact fun _ => .nil
  | cons h1 h2 h3 h4 h5 h6 _ ih => exact fun k => .cons h1 h2 (h3.mono g t) h4 (by rw [k _ List.mem_cons_self]; exact h5) (h6.mono g t) (ih fun q hq => k q (List.mem_cons_of_mem _ hq))
theorem MnRel.nt (h : MnRel K G H rs qs l) : ∀ q ∈ qs, ∃ xs, H q = some (.lst xs) := by
  induction h with
  | nil => intro q hq; cases hq
  | cons h1 h2 h3 h4 h5 h6 _ ih =>
    intro q hq
    rcases List.mem_cons.mp hq with rfl | hq
    · exact ⟨_, h5⟩
    · exact ih q hq
theorem MnRel.len (h : MnRel K G H rs qs l) : rs.length = l.length := by
  induction h with
  | nil => rfl
  | cons _ _ _ _ _ _ _ ih => rw [List.length_cons, List.length_cons, ih]
theorem MnRel.ks (h : MnRel K G H rs qs l) : ∀ r ∈ rs, ∃ G' k', Dn K G' H (.ref r.2.1) k' ∧ nkD k' = some r.1 ∧ r.1.depth ≤ 8 := by
  induction h with
  | nil => intro r hr; cases hr
  | cons h1 h2 h3 _ _ _ _ ih =>
    intro r hr
    rcases List.mem_cons.mp hr with rfl | hr
    · exact ⟨_, _, h3, h1, h2⟩
    · exact ih r hr
end
theorem MnRel.snoc {K : PySem.W.Frag} {G : Rg} {H : Hp} {rs : List (NestedKey × Addr × V)} {qs : List Addr} {l : List (PyData × List PyData)} (h : MnRel K G H rs qs l) {kk : NestedKey} {b q : Addr} {k : PyData} {xs : List V} {ds : List PyData}
    (h1 : nkD k = some kk) (h2 : kk.depth ≤ 8) (h3 : Dn K G H (.ref b) k) (h5 : H q = some (.lst xs)) (h6 : DnA K G H xs ds) : MnRel K G H (rs ++ [(kk, b, .ref q)]) (qs ++ [q]) (l ++ [(k, ds)]) := by
  induction h with
  | nil => exact .cons h1 h2 h3 rfl h5 h6 .nil
  | cons a1 a2 a3 a4 a5 a6 _ ih => exact .cons a1 a2 a3 a4 a5 a6 ih
section
variable {X : Cx} {W : WX} {sc : Scope} {N : List Str} {x y : Str} {e : Expr} {pos lpos p1 p2 a1 a2 c1 c2 : Pos} {fk : DF}
end
theorem MnRel.nd {K : PySem.W.Frag} {G G' : Rg} {H : Hp} {rs : List (NestedKey × Addr × V)} {qs : List Addr} {l : List (PyData × List PyData)} (h : MnRel K G H rs qs l) (g : RgLe G G') : (∀ q ∈ qs, ∀ o, H q = some o → G' q o) → NdRel K G' H rs (mulD l) := by
  induction h with
  | nil => exact fun _ => .nil
  | cons h1 h2 h3 h4 h5 h6 _ ih => exact fun k => .cons h1 h2 (h3.mono g (TupLe.rf _)) (by rw [h4]; exact .lst (.inl (k _ List.mem_cons_self _ h5)) (h6.mono g (TupLe.rf _))) (ih fun q hq => k q (List.mem_cons_of_mem _ hq))
section
variable {X : Cx} {W : WX} {sc : Scope} {N : List Str} {ss : List Stmt} {g : DS}
end
section
variable {X : Cx} {W : WX} {sc : Scope} {N : List Str} {e tg : Expr} {f : DF} {apos cpos : Pos}
end
end PD
set_option Elab.async false
set_option linter.all false
set_option maxRecDepth 100000
set_option maxHeartbeats 4000000
set_option autoImplicit false
namespace PD
open PySem PySem.Spec L2
open PyProof.Rows hiding St
def stp {α : Type} (xs : List α) (k : Int) : List α := pickP (sliceRange 0 (xs.length : Nat) k) xs
theorem DnA.pickP {K : PySem.W.Frag} {G : Rg} {H : Hp} {vs : List V} {ds : List PyData} (h : DnA K G H vs ds) (pm : List Nat) : DnA K G H (pickP pm vs) (pickP pm ds) := by
  induction pm with
  | nil => exact .nil
  | cons i r ih =>
    unfold PD.pickP at ih ⊢
    rw [List.filterMap_cons, List.filterMap_cons]
    cases hv : vs[i]? with
    | none =>
      have : ds[i]? = none := by
        rw [List.getElem?_eq_none_iff] at hv ⊢
        rw [← h.length]; exact hv
      rw [this]; exact ih
    | some v =>
      obtain ⟨d, h1, h2⟩ := h.get hv
      rw [h1]
      exact .cons h2 ih
section
variable {X : Cx}
end
section
variable {X : Cx} {W : WX} {sc : Scope} {N : List Str} {a e : Expr} {f : DF} {fs : DO} {p3 pos : Pos}
end
end PD
set_option Elab.async false
set_option linter.all false
set_option maxRecDepth 100000
set_option maxHeartbeats 4000000
set_option autoImplicit false
namespace PD
open PySem PySem.Spec L2
open PyProof.Rows hiding St
def ixS' : AV → AV → R AV
  | .d _ (.str z), .d _ (.int i) => (R.ofO (atI z.cps.toList i)).bind fun c => gq (decide (z.length ≤ sizeLine)) (.d true (.str ⟨#[c]⟩))
  | _, _ => .bad
def dIxS (f g : DF) : DF := fun Γ => (f Γ).bind fun x => (g x.2).bind fun y => (ixS' x.1 y.1).bind fun z => .val (z, y.2)
def dCutS (f : DF) (lo hi : DO) : DF := fun Γ => (f Γ).bind fun x => (lo x.2).bind fun l => (hi l.2).bind fun h => match x.1 with
  | .d _ (.str z) => (gq (decide (z.length ≤ sizeLine)) (AV.d true (.str (cutS z l.1 h.1)))).bind fun w => .val (w, h.2)
  | _ => .bad
def strsO : List PyData → Option (List Str)
  | [] => some []
  | .str s :: r => (strsO r).map (s :: ·)
  | _ => none
theorem strsO_ok : ∀ {ds : List PyData} {ys : List Str}, strsO ds = some ys → ds = ys.map PyData.str
  | [], _, h => by cases h; rfl
  | .str s :: r, ys, h => by
    unfold strsO at h
    cases hr : strsO r with
    | none => rw [hr] at h; cases h
    | some zs =>
      rw [hr] at h
      cases h
      rw [strsO_ok hr]; rfl
  | .int _ :: _, _, h => by cases h
  | .bool _ :: _, _, h => by cases h
  | .none :: _, _, h => by cases h
  | .list _ :: _, _, h => by cases h
  | .tuple _ :: _, _, h => by cases h
theorem strsO_map (ys : List Str) : strsO (ys.map PyData.str) = some ys := by
  induction ys with
  | nil => rfl
  | cons s r ih => show (strsO (r.map PyData.str)).map (s :: ·) = _; rw [ih]; rfl
def seqO : PyData → Option (List PyData)
  | .list ds => some ds
  | .tuple ds => some ds
  | _ => none
theorem seqO_ok {d : PyData} {ds : List PyData} (h : seqO d = some ds) : d = .list ds ∨ d = .tuple ds := by
  unfold seqO at h
  split at h
  · cases h; exact .inl rfl
  · cases h; exact .inr rfl
  · cases h
def strO : AV → Option Str
  | .d _ (.str a) => some a
  | _ => none
theorem strO_ok {x : AV} {a : Str} (h : strO x = some a) : ∃ fr, x = .d fr (.str a) := by
  unfold strO at h
  split at h
  · cases h; exact ⟨_, rfl⟩
  · cases h
def dJoin (f g : DF) : DF := fun Γ => (f Γ).bind fun x => (R.ofO (strO x.1)).bind fun a => (g x.2).bind fun y => (R.ofO (rdD y.2 y.1)).bind fun d => (R.ofO (seqO d)).bind fun ds => (R.ofO (strsO ds)).bind fun ys =>
  (R.req (decide ((ys.map (·.length)).sum + ys.length * a.length ≤ 16777216))).bind fun _ => .val (.d true (.str (Txt.join a ys)), y.2)
section
variable {X : Cx} {W : WX} {sc : Scope} {N : List Str} {a b e : Expr} {f g : DF} {p2 pos apos : Pos}
theorem ce_ixS (ha : CE X W a f) (hb : CE X W b g) (hs : PlainIx b := by exact fun _ _ => rfl) : CE X W (.Subscript a b pos) (dIxS f g) := fun Γ =>
  pe_imp (pe_ix ix_str (ha Γ) (pe_any fun x : AV × List Sl => hb x.2) hs) fun σ H Q h => bin_rd (X := X) (W := W) (ava := Prod.fst) (Γa := Prod.snd) (avb := fun _ (y : AV × List Sl) => y.1) (Γb := fun _ (y : AV × List Sl) => y.2) (avk := Prod.fst) (Γk := Prod.snd) (k := fun (x : AV × List Sl) (y : AV × List Sl) => (ixS' x.1 y.1).bind fun z => .val (z, y.2)) (fun x y G H σ u v Q S hu hv p => by
    obtain ⟨x, Γ1⟩ := x
    obtain ⟨y, Γ2⟩ := y
    simp only at hu hv S p
    unfold ixS' at p
    split at p
    · rename_i fr z _ i
      cases hz : atI z.cps.toList i with
      | none => rw [hz] at p; exact p.elim
      | some c =>
        rw [hz] at p
        simp only [R.ofO, R.bind] at p
        rcases gq_cases (decide (z.length ≤ sizeLine)) (AV.d true (.str ⟨#[c]⟩)) with e | ⟨hc, e⟩
        · rw [e] at p; exact p.elim
        · rw [e] at p
          exact ⟨z, i, c, dn_str hu, dn_int hv, of_decide_eq_true hc, hz, p G H (Ext.rf S.w) _ S (.str _)⟩
    · exact p.elim) h
theorem ce_cutS {lo hi : Option Expr} {fl fh : DO} (ha : CE X W a f) (hl : CO X W lo fl) (hh : CO X W hi fh) : CE X W (.Subscript a (.Slice lo hi none p2) pos) (dCutS f fl fh) := fun Γ =>
  pe_imp (pe_slice sl_str (ha Γ) (po_any fun x : AV × List Sl => hl x.2) (po_any fun x : Option Int × List Sl => hh x.2)) fun σ H Q ⟨G, S, q⟩ => ⟨G, S, (Pst.bind q).imp fun x G1 H1 e1 q1 v S1 hv => ⟨x, G1, S1, (Pst.bind q1).imp fun l G2 H2 e2 q2 S2 => ⟨l, G2, S2, (Pst.bind q2).imp fun h G3 H3 e3 q3 S3 => by
    have hv := hv.ext (e2.tr e3)
    split at q3
    · rename_i fr z hx
      rw [hx] at hv
      rcases gq_cases (decide (z.length ≤ sizeLine)) (AV.d true (.str (cutS z l.1 h.1))) with e | ⟨hc, e⟩
      · rw [e] at q3; exact q3.elim
      · rw [e] at q3
        exact ⟨z, dn_str hv, of_decide_eq_true hc, q3 G3 H3 (Ext.rf S3.w) _ S3 (.str _)⟩
    · exact q3.elim⟩⟩⟩
theorem ce_join (ha : CE X W a f) (hb : CE X W b g) (hs : starEach [b] X.env = [(false, eval b X.env)] := by rfl) (hbase : attributeBase a "join" X.env (eval a X.env) = eval a X.env := by rfl) (hline : (apos.endLine == pos.line) = true := by rfl) :
    CE X W (.Call (.Attribute a "join" apos) [b] [] pos) (dJoin f g) := fun Γ =>
  pe_imp (pe_join (ha Γ) (pe_any fun x : AV × List Sl => hb x.2) hs hbase hline) fun σ H Q ⟨G, S, q⟩ => ⟨G, S, (Pst.bind q).imp fun x G1 H1 e1 q1 v S1 hv => by
    obtain ⟨s, hs, q1⟩ := Pst.ofO q1
    obtain ⟨fr, hx⟩ := strO_ok hs
    rw [hx] at hv
    refine ⟨⟨s, dn_str hv⟩, x, G1, S1, (Pst.bind q1).imp fun y G2 H2 e2 q2 u S2 hu => ?_⟩
    obtain ⟨d, hd, q2⟩ := Pst.ofO q2
    obtain ⟨ds, hds, q2⟩ := Pst.ofO q2
    obtain ⟨ys, hys, q2⟩ := Pst.ofO q2
    obtain ⟨hsz, q2⟩ := Pst.req q2
    have hu := (rdD_ok hd).ok S2 hu
    have fin := q2 G2 H2 (Ext.rf S2.w) (.str (Txt.join s ys)) S2 (.str _)
    have hys := strsO_ok hys
    subst hys
    rcases seqO_ok hds with e | e
    · subst e
      obtain ⟨l, xs, rfl, g1, g2⟩ := dn_list hu
      rw [dna_strs g2] at g1
      exact ⟨s, l, ys, dn_str hv, rfl, .inl g1.sq, of_decide_eq_true hsz, fin⟩
    · subst e
      obtain ⟨l, xs, rfl, g1, g2⟩ := dn_tuple hu
      rw [dna_strs g2] at g1
      exact ⟨s, l, ys, dn_str hv, rfl, .inr g1, of_decide_eq_true hsz, fin⟩⟩
end
end PD
set_option Elab.async false
set_option linter.all false
set_option maxRecDepth 100000
set_option maxHeartbeats 4000000
set_option autoImplicit false
namespace PD
open PySem PySem.Spec L2
open PyProof.Rows hiding St
section
variable {X : Cx} {W : WX} {sc : Scope} {N : List Str} {a b e tg o : Expr} {es : List Expr} {f g : DF} {p p2 pos apos cpos : Pos} {k : DA} {x : Str} {vs : List V} {ds : List PyData}
def kStr (_ : List Sl) : List AV → R AV
  | [.d _ (.int i)] => gq (decide (i.natAbs.log2 < 1920)) (.d true (.str (toString i)))
  | _ => .bad
theorem ce_str1 (C : Cf0 X W sc N) (hg : glB sc "str" = true) (hm : X.mg "str" = none) (ha : CA X W [e] k) (he : starEach [e] X.env = (false, eval e X.env) :: starEach [] X.env := by rfl) : CE X W (.Call (.Name "str" p) [e] [] pos) (dB kStr k) :=
  ce_bT C kStr call_str_int hg hm PyProof.Rows.boot_str ha (fun as Γ2 G H σ vs Q S h q => by
    unfold kStr at q
    split at q
    · rename_i fr i
      obtain ⟨v, rfl, hv⟩ := avs_one h
      rcases gq_cases (decide (i.natAbs.log2 < 1920)) (AV.d true (.str (toString i))) with e | ⟨hc, e⟩
      · rw [e] at q; exact q.elim
      · rw [e] at q
        exact ⟨i, by rw [dn_int hv], of_decide_eq_true hc, Pk.v q S (.str _)⟩
    · exact q.elim) (by decide +kernel) (by decide +kernel) he
end
end PD
set_option Elab.async false
set_option linter.all false
set_option maxRecDepth 100000
set_option maxHeartbeats 4000000
set_option autoImplicit false
namespace PD
open PySem L2
section
variable {X : Cx} {W : WX} {sc : Scope} {N : List Str} {b b1 b2 e : Expr} {pos : Pos}
end
end PD
set_option Elab.async false
set_option linter.all false
set_option maxRecDepth 100000
set_option maxHeartbeats 4000000
set_option autoImplicit false
namespace PD
open PySem L2
def RowsAt (K : PySem.W.Frag) (G : Rg) (H : Hp) : List (Addr × List V) → List (List PyData) → Prop
  | [], [] => True
  | z :: l, ds :: dss => DnA K G H z.2 ds ∧ RowsAt K G H l dss
  | _, _ => False
theorem RowsAt.mono {K : PySem.W.Frag} {G G' : Rg} {H H' : Hp} (g : RgLe G G') (t : TupLe H H') : ∀ {l : List (Addr × List V)} {dss : List (List PyData)}, RowsAt K G H l dss → RowsAt K G' H' l dss
  | [], [], _ => trivial
  | _ :: _, _ :: _, h => ⟨h.1.mono g t, RowsAt.mono g t h.2⟩
  | [], _ :: _, h => h.elim
  | _ :: _, [], h => h.elim
theorem RowsAt.len {K : PySem.W.Frag} {G : Rg} {H : Hp} : ∀ {l : List (Addr × List V)} {dss : List (List PyData)}, RowsAt K G H l dss → l.length = dss.length
  | [], [], _ => rfl
  | _ :: _, _ :: _, h => by simp [RowsAt.len h.2]
  | [], _ :: _, h => h.elim
  | _ :: _, [], h => h.elim
theorem RowsAt.snoc {K : PySem.W.Frag} {G : Rg} {H : Hp} {z : Addr × List V} {ds : List PyData} (hz : DnA K G H z.2 ds) : ∀ {l : List (Addr × List V)} {dss : List (List PyData)}, RowsAt K G H l dss → RowsAt K G H (l ++ [z]) (dss ++ [ds])
  | [], [], _ => ⟨hz, trivial⟩
  | _ :: _, _ :: _, h => ⟨h.1, RowsAt.snoc hz h.2⟩
  | [], _ :: _, h => h.elim
  | _ :: _, [], h => h.elim
section
variable {X : Cx} {W : WX} {sc : Scope} {N : List Str} {Γ : List Sl} {tg iter elt : Expr} {scope : Scope} {own : List (Str × Nat)} {pos : Pos} {it : DI} {g : DG} {e : DN} {ts : List Nat}
end
end PD
set_option Elab.async false
set_option linter.all false
set_option maxRecDepth 100000
set_option maxHeartbeats 4000000
set_option autoImplicit false
namespace PD
open PySem L2
section
variable {X : Cx} {W : WX} {sc : Scope} {N : List Str} {tg iter elt a b e : Expr} {scope : Scope} {own : List (Str × Nat)} {pos apos cpos p p2 : Pos} {it : DI} {g : DG} {f : DF} {x y : Str} {ts : List Nat}
structure CompT (X : Cx) (W : WX) (sc : Scope) (N : List Str) (tg iter elt : Expr) (scope : Scope) (own : List (Str × Nat)) (ts : List Nat) (g : DG) (it : DI) (e : DN) : Prop where
  hin : CI X W tg iter it
  ok : blkC N sc scope own = true
  hg : ∀ (s : Shared) (H : Hp) (c : Addr) (cl : List (Str × Addr)) (fp : List Addr), CG (X.blk s H scope (compEnvC scope cl c X.env) fp) tg ts g
  he : ∀ (s : Shared) (H : Hp) (c : Addr) (cl : List (Str × Addr)) (fp : List Addr), CN (X.blk s H scope (compEnvC scope cl c X.env) fp) WF elt e
  hts : ∀ j ∈ ts, j ∈ own.map (·.2)
  hs : ∀ x, foldedSetIterable iter X.env x = pure x
end
end PD
set_option Elab.async false
set_option linter.all false
set_option maxRecDepth 100000
set_option maxHeartbeats 4000000
set_option autoImplicit false
namespace PD
open PySem L2
section
variable {X : Cx} {W : WX} {sc : Scope} {N : List Str} {x y : Str}
end
end PD
set_option Elab.async false
set_option linter.all false
set_option maxRecDepth 100000
set_option maxHeartbeats 4000000
set_option autoImplicit false
namespace MinD
open PySem PySem.W PySem.Calls PyProof.Rows
section
variable {prog : Program} {w : World} {A : Around} {R : Result → Shared → Prop} {it B : Addr} {ft wt : List Addr} {len : Nat} {Pv : Nat → Value → Prop} {Tn : Nat → Heap → Prop} {kw : List (Str × Value)}
abbrev two (v : Value) (c : Nat) : Obj := { cls := .type "list", dict := none, data := .seq #[v, v] c, slots := #[] }
theorem nm : (toString "min" ++ toString ".loop" : String) = "min.loop" := by decide
theorem turns (K : Walks prog w A.in1 it ft wt len Pv Tn) (lt : Nat → Nat → Bool) (cmp : CmpOf prog w A.in1 .Lt Pv lt) (nb : B ∉ ft) (m : Nat) :
    ∀ (j : Nat) (s : Shared) (v : Value) (c : Nat), len - (j + 1) = m → j + 1 ≤ len → Tn (j + 1) s.heap → Pv (argBest lt j) v → s.heap.get? B = some (two v c) →
      (∀ u h' tk, Pv (argBest lt (len - 1)) u → (∀ b o, b ∉ wt → b ≠ B → s.heap.get? b = some o → h'.get? b = some o) → R (.ok (.ret u)) { s with heap := h', toks := tk }) → codeAny (model prog w) A (.builtin "min.loop" ⟨[.ref it, .none, .ref B], kw⟩) R s := by
  have nw : B ∉ wt := fun z => nb (K.sub _ z)
  induction m with
  | zero =>
    intro j s v c e1 e2 tn pv hb fin
    obtain rfl : j + 1 = len := by omega
    refine codeAny_builtin F.entry_min_loop ?_; rw [Around.under_plainId F.plain_min_loop _]
    refine wpAny_bind (m := seqItems? (.ref B)) (wpAny_seqItems hb rfl ?_)
    refine wpAny_bind (wpAny_tryCatch (K.done s _ _ tn fun g tk keep => ?_))
    have hb' := keep B _ nw hb
    refine wpAny_bind (m := updateSeq B (fun _ => #[])) (wpAny_updateSeq hb' rfl (wpAny_bind (wpAny_letGo (wpAny_pure ?_))))
    exact fin v _ tk pv fun b o x y z => (Heap.get?_update_other _ _ (Ne.symm y)).trans (keep b o x z)
  | succ m ih =>
    intro j s v c e1 e2 tn pv hb fin
    have lt1 : j + 1 < len := by omega
    refine codeAny_builtin F.entry_min_loop ?_; rw [Around.under_plainId F.plain_min_loop _]
    refine wpAny_bind (m := seqItems? (.ref B)) (wpAny_seqItems hb rfl ?_)
    refine wpAny_bind (wpAny_tryCatch (K.item (j + 1) s _ _ lt1 tn fun u g tk pu tn' keep => ?_))
    have hb' := keep B _ nw hb
    refine wpAny_bind (m := tryCatch (holding [u, u] (richCompare .Lt u v >>= _)) _) (wpAny_tryCatch (wpAny_holding (wpAny_bind (cmp (j + 1) (argBest lt j) u v _ _ _ pu pv ?_))))
    refine wpAny_bind (wpAny_holding (wpAny_truthy_bool (wpAny_bind (wpAny_letGo (wpAny_pure ?_)))))
    cases z : lt (j + 1) (argBest lt j) with
    | false =>
      simp only [Bool.false_eq_true, if_false]
      refine wpAny_bind (wpAny_letGo ?_); rw [nm]
      refine wpAny_pure ⟨plainId_quiet F.plain_min_loop _, ih (j + 1) _ v c (by omega) lt1 tn' (by simp only [argBest, z, Bool.false_eq_true, if_false]; exact pv) hb' fun u' h2 tk2 pu' keep2 => fin u' h2 tk2 pu' fun b o x y q => keep2 b o x y (keep b o x q)⟩
    | true =>
      simp only [if_true]
      refine wpAny_bind (wpAny_updateSeq hb' rfl (wpAny_bind (wpAny_letGo ?_))); rw [nm]
      refine wpAny_pure ⟨plainId_quiet F.plain_min_loop _, ih (j + 1) _ u _ (by omega) lt1 (K.frame _ _ _ tn' fun b x o e => (Heap.get?_update_other _ _ (fun h : B = b => nb (by rw [h]; exact x))).trans e) (by simp only [argBest, z, if_true]; exact pu) (Heap.get?_update_self _ hb' rfl) fun u' h2 tk2 pu' keep2 => ?_⟩
      exact fin u' h2 tk2 pu' fun b o x y q => keep2 b o x y ((Heap.get?_update_other _ _ (Ne.symm y)).trans (keep b o x q))
theorem start (K : Walks prog w A.in1 it ft wt len Pv Tn) (lt : Nat → Nat → Bool) (cmp : CmpOf prog w A.in1 .Lt Pv lt) (nb : B ∉ ft) {d : Value} {nme : Str} {s : Shared} {c : Nat} (tn : Tn 0 s.heap) (hb : s.heap.get? B = some { cls := .type "list", dict := none, data := .seq #[] c, slots := #[] })
    (fin0 : len = 0 → ∀ h' tk, (∀ b o, b ∉ wt → b ≠ B → s.heap.get? b = some o → h'.get? b = some o) → R (.ok (.ret d)) { s with heap := h', toks := tk })
    (fin : 0 < len → ∀ u h' tk, Pv (argBest lt (len - 1)) u → (∀ b o, b ∉ wt → b ≠ B → s.heap.get? b = some o → h'.get? b = some o) → R (.ok (.ret u)) { s with heap := h', toks := tk }) : codeAny (model prog w) A (.builtin "min.loop" ⟨[.ref it, .none, .ref B], [(nme, d)]⟩) R s := by
  have nw : B ∉ wt := fun z => nb (K.sub _ z)
  refine codeAny_builtin F.entry_min_loop ?_; rw [Around.under_plainId F.plain_min_loop _]
  refine wpAny_bind (m := seqItems? (.ref B)) (wpAny_seqItems hb rfl ?_)
  by_cases h0 : len = 0
  · subst h0
    refine wpAny_bind (wpAny_tryCatch (K.done s _ _ tn fun g tk keep => ?_))
    refine wpAny_bind (wpAny_rule ?_)
    exact wpAny_pure (fin0 rfl g tk fun b o x _ z => keep b o x z)
  · refine wpAny_bind (wpAny_tryCatch (K.item 0 s _ _ (by omega) tn fun u g tk pu tn' keep => ?_))
    have hb' := keep B _ nw hb
    refine wpAny_bind (m := updateSeq B (fun _ => #[u, u])) (wpAny_updateSeq hb' rfl ?_); rw [nm]
    refine wpAny_pure ⟨plainId_quiet F.plain_min_loop _, turns K lt cmp nb _ 0 _ u _ rfl (by omega) (K.frame _ _ _ tn' fun b x o e => (Heap.get?_update_other _ _ (fun h : B = b => nb (by rw [h]; exact x))).trans e) pu (Heap.get?_update_self _ hb' rfl) fun u' h2 tk2 pu' keep2 => ?_⟩
    exact fin (by omega) u' h2 tk2 pu' fun b o x y q => keep2 b o x y ((Heap.get?_update_other _ _ (Ne.symm y)).trans (keep b o x q))
end
section
variable {prog : Program} {w : World} {A : Around} {E : Value → Shared → Prop} {s : Shared} {l : Addr} {xs : Array (Int × Tok)}
end
end MinD
namespace PD
open PySem L2 PySem.W PySem.Calls
open PyProof.Rows hiding St
section
variable {X : Cx} {W : WX} {sc : Scope} {N : List Str} {e e2 : Expr} {p pos kpos : Pos} {f g : DF}
end
end PD
set_option Elab.async false
set_option linter.all false
set_option maxRecDepth 100000
set_option maxHeartbeats 4000000
set_option autoImplicit false
namespace PD
open PySem L2
abbrev DL := List Sl → R (List AV × Cl × List Sl)
section
variable {X : Cx} {W : WX} {sc : Scope} {N : List Str} {e : Expr} {es : List Expr} {f : DF} {k : DL} {n0 : DC}
end
section
variable {X : Cx} {W : WX} {sc : Scope} {N : List Str} {e : Expr} {es : List Expr} {x : Str} {p pos : Pos} {m : List Ar → R (Rs × List Sl)} {k : DL}
end
end PD
set_option Elab.async false
set_option linter.all false
set_option maxRecDepth 100000
set_option maxHeartbeats 4000000
set_option autoImplicit false
namespace PD
open PySem L2
inductive Atm where
  | v (i : Nat)
  | h (j c : Nat)
def AtV (σ : St) (H : Hp) : Atm → V → Prop
  | .v i, v => σ[i]? = some (some v)
  | .h j c, v => ∃ p ws, σ[j]? = some (some (.ref p)) ∧ H p = some (.lst ws) ∧ ws[c]? = some v
inductive AtVs (σ : St) (H : Hp) : List Atm → List V → Prop
  | nil : AtVs σ H [] []
  | cons {a : Atm} {as : List Atm} {v : V} {vs : List V} : AtV σ H a v → AtVs σ H as vs → AtVs σ H (a :: as) (v :: vs)
section
variable {X : Cx} {W : WX} {sc : Scope} {N : List Str} {e : Expr} {es : List Expr} {as : List Atm} {x : Str} {p p2 cp pos : Pos}
end
theorem TresOk.at {K : PySem.W.Frag} {G : Rg} {H : Hp} : ∀ {ws : List V} {fp : List Addr} {ts : List Tre} {c : Nat} {t : Tre}, TresOk K G H ws fp ts → ts[c]? = some t → ∃ v f, ws[c]? = some v ∧ TreOk K G H v f t
  | _, _, _, c, t, .nil, e => by simp at e
  | _, _, _, 0, t, .cons h a n, e => by simp at e; subst e; exact ⟨_, _, rfl, h⟩
  | _, _, _, c + 1, t, .cons h a n, e => by
    obtain ⟨v, f, h1, h2⟩ := TresOk.at (c := c) a (by simpa using e)
    exact ⟨v, f, by simpa using h1, h2⟩
section
variable {X : Cx} {W : WX} {sc : Scope} {N : List Str} {e : Expr} {es : List Expr} {as : List Atm} {x : Str} {p pos : Pos} {m : List Ar → R (Rs × List Sl)}
end
end PD
set_option Elab.async false
set_option linter.all false
set_option maxRecDepth 100000
set_option maxHeartbeats 4000000
set_option autoImplicit false
namespace PD
open PySem L2
section
variable {X : Cx} {W : WX} {sc : Scope} {N : List Str} {e e1 : Expr} {x : Str} {p p2 cp cp2 pos tpos apos cpos : Pos} {f : DF} {n : DN}
end
end PD
set_option Elab.async false
set_option linter.all false
set_option maxRecDepth 100000
set_option maxHeartbeats 4000000
set_option autoImplicit false
namespace PD
open PySem L2
section
variable {X : Cx} {W : WX} {sc : Scope} {N : List Str} {e : Expr} {x : Str} {p p2 ipos cp cp2 pos tpos apos cpos : Pos} {f : DF}
end
end PD
set_option Elab.async false
set_option linter.all false
set_option maxRecDepth 100000
set_option maxHeartbeats 4000000
set_option autoImplicit false
namespace PD
open PySem L2
theorem AtVs.heap {σ : St} {H H2 : Hp} : ∀ {is : List Nat} {vs : List V}, AtVs σ H (is.map Atm.v) vs → AtVs σ H2 (is.map Atm.v) vs
  | [], _, .nil => .nil
  | _ :: _, _, .cons h k => .cons h (AtVs.heap k)
section
variable {X : Cx} {W : WX} {sc : Scope} {N : List Str} {e : Expr} {es : List Expr} {is : List Nat} {x : Str} {p pos : Pos} {m : List Ar → R (Rs × List Sl)} {n0 : DC}
end
end PD
set_option Elab.async false
set_option linter.all false
set_option maxRecDepth 100000
set_option maxHeartbeats 4000000
set_option autoImplicit false
namespace PD
open PySem L2
end PD
set_option Elab.async false
set_option linter.all false
set_option maxRecDepth 100000
set_option maxHeartbeats 4000000
set_option autoImplicit false
namespace PD
open PySem L2
section
variable {X : Cx} {Γ : List Sl} {m : List Ar → R (Rs × List Sl)} {r j : Nat} {ms : List Bool} {as : List Atm} {E : St → XK}
end
end PD
set_option Elab.async false
set_option linter.all false
set_option maxRecDepth 100000
set_option maxHeartbeats 4000000
set_option autoImplicit false
namespace PD
open PySem L2
end PD
set_option Elab.async false
set_option linter.all false
set_option maxRecDepth 100000
set_option maxHeartbeats 4000000
set_option autoImplicit false
namespace PD
open PySem L2
section
variable {X : Cx} {W : WX} {sc : Scope} {N : List Str} {x y z n : Str} {m : List Ar → R (Rs × List Sl)} {r j i mk : Nat} {ms : List Bool} {as : List Atm} {cond : Expr} {scope : Scope} {own : List (Str × Nat)} {ss : List Stmt} {b : DS}
end
end PD
set_option Elab.async false
set_option linter.all false
set_option maxRecDepth 100000
set_option maxHeartbeats 4000000
set_option autoImplicit false
namespace PD
open PySem L2
section
variable {X : Cx} {W : WX} {sc : Scope} {N : List Str} {e : Expr} {es : List Expr} {as : List Atm} {x : Str} {p pos : Pos} {m : List Ar → R (Rs × List Sl)}
end
end PD
set_option Elab.async false
set_option linter.all false
set_option maxRecDepth 100000
set_option maxHeartbeats 4000000
set_option autoImplicit false
namespace PD
open PySem L2
abbrev Pr := PyData × List PyData
abbrev DP := List Sl → R (Pr × List Sl)
def rdP (X : Cx) (W : WX) (Γ : List Sl) (m : R (Pr × List Sl)) : TE := fun σ H Q => ∃ G, Sta X.K G H σ Γ ∧ Pst X W G H σ m fun r G' H' => ∀ q a v1 vs, Sta X.K G' H' σ r.2 → H' a = none → H' q = none → q ≠ a → Dn X.K (rg G' true) H' v1 r.1.1 → DnA X.K (rg G' true) H' vs r.1.2 → Q (.ref q) (upd (upd H' a (.lst vs)) q (.lst [v1, .ref a]))
def CP (X : Cx) (W : WX) (e : Expr) (f : DP) : Prop := ∀ Γ, PE X e (rdP X W Γ (f Γ))
section
variable {X : Cx} {W : WX} {sc : Scope} {N : List Str} {a b : Expr} {pos : Pos} {f : DF} {n : DC}
end
abbrev Pl4 := Addr × V × Addr × List V
def RowsP (K : PySem.W.Frag) (G : Rg) (H : Hp) : List Pl4 → List Pr → Prop
  | [], [] => True
  | z :: l, y :: ys => (Dn K G H z.2.1 y.1 ∧ DnA K G H z.2.2.2 y.2) ∧ RowsP K G H l ys
  | _, _ => False
theorem RowsP.mono {K : PySem.W.Frag} {G G' : Rg} {H H' : Hp} (g : RgLe G G') (t : TupLe H H') : ∀ {l : List Pl4} {ys : List Pr}, RowsP K G H l ys → RowsP K G' H' l ys
  | [], [], _ => trivial
  | _ :: _, _ :: _, h => ⟨⟨h.1.1.mono g t, h.1.2.mono g t⟩, RowsP.mono g t h.2⟩
  | [], _ :: _, h => h.elim
  | _ :: _, [], h => h.elim
theorem RowsP.snoc {K : PySem.W.Frag} {G : Rg} {H : Hp} {z : Pl4} {y : Pr} (h1 : Dn K G H z.2.1 y.1) (h2 : DnA K G H z.2.2.2 y.2) : ∀ {l : List Pl4} {ys : List Pr}, RowsP K G H l ys → RowsP K G H (l ++ [z]) (ys ++ [y])
  | [], [], _ => ⟨⟨h1, h2⟩, trivial⟩
  | _ :: _, _ :: _, h => ⟨h.1, RowsP.snoc h1 h2 h.2⟩
  | [], _ :: _, h => h.elim
  | _ :: _, [], h => h.elim
end PD
set_option Elab.async false
set_option linter.all false
set_option maxRecDepth 100000
set_option maxHeartbeats 4000000
set_option autoImplicit false
namespace PD
open PySem L2
section
variable {X : Cx} {W : WX} {sc : Scope} {N : List Str} {Γ : List Sl} {tg iter elt : Expr} {scope : Scope} {own : List (Str × Nat)} {pos : Pos} {it : DI} {g : DG} {e : DP} {ts : List Nat}
end
end PD
set_option Elab.async false
set_option linter.all false
set_option maxRecDepth 100000
set_option maxHeartbeats 4000000
set_option autoImplicit false
namespace PD
open PySem L2
section
variable {X : Cx} {W : WX} {sc : Scope} {N : List Str} {tg iter elt : Expr} {scope : Scope} {own : List (Str × Nat)} {pos : Pos} {it : DI} {g : DG} {y : Str} {ts : List Nat}
structure CompP (X : Cx) (W : WX) (sc : Scope) (N : List Str) (tg iter elt : Expr) (scope : Scope) (own : List (Str × Nat)) (ts : List Nat) (g : DG) (it : DI) (e : DP) : Prop where
  hin : CI X W tg iter it
  ok : blkC N sc scope own = true
  hg : ∀ (s : Shared) (H : Hp) (c : Addr) (cl : List (Str × Addr)) (fp : List Addr), CG (X.blk s H scope (compEnvC scope cl c X.env) fp) tg ts g
  he : ∀ (s : Shared) (H : Hp) (c : Addr) (cl : List (Str × Addr)) (fp : List Addr), CP (X.blk s H scope (compEnvC scope cl c X.env) fp) WF elt e
  hts : ∀ j ∈ ts, j ∈ own.map (·.2)
  hs : ∀ x, foldedSetIterable iter X.env x = pure x
end
section
variable {K : PySem.W.Frag} {G : Gh} {H : Hp} {σ : St} {Γ : List Sl} {A : Nat → List Addr} {i j : Nat} {ns nn : List (List Itm)} {T : Tre}
end
end PD
set_option Elab.async false
set_option linter.all false
set_option maxRecDepth 100000
set_option maxHeartbeats 4000000
set_option autoImplicit false
namespace PD
open PySem L2
end PD
set_option Elab.async false
set_option linter.all false
set_option maxRecDepth 100000
set_option maxHeartbeats 4000000
set_option autoImplicit false
namespace PD
open PySem L2
section
variable {X : Cx} {W : WX} {sc : Scope} {N : List Str} {x y z : Str} {scope : Scope} {own : List (Str × Nat)}
end
end PD
set_option Elab.async false
set_option linter.all false
set_option maxRecDepth 100000
set_option maxHeartbeats 4000000
set_option autoImplicit false
namespace PD
open PySem L2
end PD
set_option Elab.async false
set_option linter.all false
set_option maxRecDepth 100000
set_option maxHeartbeats 4000000
set_option autoImplicit false
namespace PD
open PySem L2
section
variable {X : Cx} {W : WX} {sc : Scope} {N : List Str} {a b : Expr} {pos : Pos} {f g : DF}
end
end PD
set_option Elab.async false
set_option linter.all false
set_option maxRecDepth 100000
set_option maxHeartbeats 4000000
set_option autoImplicit false
namespace PD
open PySem PySem.Spec L2
open PyProof.Rows hiding St
def idxD (ds : List PyData) (d : PyData) : Option Nat := ds.findIdx? fun z => PyData.eqv z d
theorem idxD_ok {ds : List PyData} {d : PyData} {j : Nat} (h : idxD ds d = some j) : ∃ z, ds[j]? = some z ∧ PyData.eqv z d = true ∧ ∀ (m : Nat) (z' : PyData), m < j → ds[m]? = some z' → PyData.eqv z' d = false := by
  unfold idxD at h
  rw [List.findIdx?_eq_some_iff_getElem] at h
  obtain ⟨hl, h1, h2⟩ := h
  refine ⟨ds[j], List.getElem?_eq_getElem hl, h1, fun m z' hm hz => ?_⟩
  obtain ⟨_, rfl⟩ := List.getElem?_eq_some_iff.mp hz
  simpa using h2 m hm
def dIdxL (f g : DF) : DF := fun Γ => (f Γ).bind fun x => (R.req (((rdD x.2 x.1).map isLst).getD false)).bind fun _ => (g x.2).bind fun y => match rdD y.2 x.1, rdD y.2 y.1 with
  | some (.list ds), some d => (R.req (SeqAt.shaped (.list ds) && SeqAt.shaped d)).bind fun _ => (R.ofO (idxD ds d)).bind fun j => .val (.d true (.int (j : Nat)), y.2)
  | _, _ => .bad
section
variable {X : Cx} {W : WX} {sc : Scope} {N : List Str} {a b e o : Expr} {f g : DF} {p p2 pos apos cpos : Pos}
theorem ce_idxL (C : Cf0 X W sc N) (ha : CE X W o f) (hb : CE X W e g) (hbase : attributeBase o "index" X.env (eval o X.env) = eval o X.env := by rfl)
    (hfew : ((backTo cpos (starEach [e] X.env)).all (fun x => !x.1) && (backToKw cpos (keywordEach [] X.env)).all (fun x => x.1.isSome)
      && decide ([e].length + ([] : List Keyword).length + (if ([] : List Keyword).isEmpty then 0 else 1) < 30)) = true := by rfl)
    (hline : (apos.endLine == cpos.line) = true := by rfl) (hs : starEach [e] X.env = (false, eval e X.env) :: starEach [] X.env := by rfl) :
    CE X W (.Call (.Attribute o "index" apos) [e] [] cpos) (dIdxL f g) := fun Γ => by
  have hu : X.A.units + 65 < cLine := by have := C.hu2; omega
  refine pe_imp (pe_bm PySem.F.plainAttrs_list PySem.F.slot_list_index PySem.F.type_list_index (mt_indexD hu) (ha Γ) (pa_any fun x : AV × List Sl => pa_cons (hb x.2) pa_nil hs) hbase hfew hline hs (by rfl)) fun σ H Q ⟨G, S, q⟩ => ⟨G, S, (Pst.bind q).imp fun x G1 H1 e1 p1 v S1 hv => ?_⟩
  obtain ⟨hl, p1⟩ := Pst.req p1
  have ht : ∃ ds, rdD x.2 x.1 = some (.list ds) := by
    cases hx : rdD x.2 x.1 with
    | none => rw [hx] at hl; cases hl
    | some d => cases d <;> first | exact ⟨_, rfl⟩ | (rw [hx] at hl; cases hl)
  obtain ⟨ds0, hx⟩ := ht
  obtain ⟨l, ws, rfl, hl0, hd0⟩ := dn_list ((rdD_ok hx).ok S1 hv)
  refine ⟨.inl ⟨rfl, ws, hl0.sq⟩, x, G1, S1, (Pst.bind p1).imp fun y G2 H2 e2 p2 u S2 hu => ?_⟩
  split at p2
  · rename_i ds d h1 h2
    obtain ⟨hc, p2⟩ := Pst.req p2
    rw [Bool.and_eq_true] at hc
    obtain ⟨j, hj, p2⟩ := Pst.ofO p2
    obtain ⟨z, z1, z2, z3⟩ := idxD_ok hj
    obtain ⟨l2, ws2, e3, hl2, hd2⟩ := dn_list ((rdD_ok h1).ok S2 (hv.ext e2))
    cases e3
    exact ⟨l, u, d, ds, j, z, rfl, rfl, ((rdD_ok h1).ok S2 (hv.ext e2)).dps hc.1, ((rdD_ok h2).ok S2 hu).dps hc.2, hc.1, hc.2, z1, z2, z3, p2 G2 H2 (Ext.rf S2.w) _ S2 (.int _)⟩
  · exact p2.elim
end
end PD
set_option Elab.async false
set_option linter.all false
set_option maxRecDepth 100000
set_option maxHeartbeats 4000000
set_option autoImplicit false
namespace PD
open PySem PySem.Spec L2
open PyProof.Rows hiding St
section
variable {X : Cx} {W : WX} {sc : Scope} {N : List Str} {a b e tg : Expr} {f g : DF} {p p2 pos apos : Pos} {k : DA} {x : Str}
def dSplit (f g : DF) : DF := fun Γ => (f Γ).bind fun x => (R.ofO (strO x.1)).bind fun a => (g x.2).bind fun y => (R.ofO (strO y.1)).bind fun b =>
  (R.req (!(b.length == 0) && decide (a.length + 2 ≤ sizeLine))).bind fun _ => .val (.d true (.list ((Txt.split a b).map PyData.str)), y.2)
theorem ce_split (ha : CE X W a f) (hb : CE X W b g) (hs : starEach [b] X.env = [(false, eval b X.env)] := by rfl) (hbase : attributeBase a "split" X.env (eval a X.env) = eval a X.env := by rfl) (hline : (apos.endLine == pos.line) = true := by rfl) :
    CE X W (.Call (.Attribute a "split" apos) [b] [] pos) (dSplit f g) := fun Γ =>
  pe_imp (pe_split (ha Γ) (pe_any fun x : AV × List Sl => hb x.2) hs hbase hline) fun σ H Q ⟨G, S, q⟩ => ⟨G, S, (Pst.bind q).imp fun x G1 H1 e1 q1 v S1 hv => by
    obtain ⟨s, hs, q1⟩ := Pst.ofO q1
    obtain ⟨fr, hx⟩ := strO_ok hs
    rw [hx] at hv
    refine ⟨⟨s, dn_str hv⟩, x, G1, S1, (Pst.bind q1).imp fun y G2 H2 e2 q2 u S2 hu => ?_⟩
    obtain ⟨t, ht, q2⟩ := Pst.ofO q2
    obtain ⟨fr2, hy⟩ := strO_ok ht
    rw [hy] at hu
    obtain ⟨hc, q2⟩ := Pst.req q2
    rw [Bool.and_eq_true] at hc
    refine ⟨s, t, dn_str hv, by rw [dn_str hu], by simpa using hc.1, of_decide_eq_true hc.2, fun q hq => ?_⟩
    obtain ⟨S3, e3⟩ := S2.grow (grow_new (o := .lst ((Txt.split s t).map V.str)) S2.w hq)
    exact q2 _ _ e3 (.ref q) S3 (.lst (.inl upd_same) (strs_dna _))⟩
def kIntT (_ : List Sl) : List AV → R AV
  | [.d _ (.str a)] => (R.ofO (PySem.intText? a)).bind fun n => gq (decide (a.length ≤ 640)) (.d true (.int n))
  | _ => .bad
theorem ce_intT (C : Cf0 X W sc N) (hg : glB sc "int" = true) (hm : X.mg "int" = none) (ha : CA X W [e] k) (he : starEach [e] X.env = (false, eval e X.env) :: starEach [] X.env := by rfl) : CE X W (.Call (.Name "int" p) [e] [] pos) (dB kIntT k) :=
  ce_bT C kIntT call_int_str hg hm PyProof.Rows.boot_int ha (fun as Γ2 G H σ vs Q S h q => by
    unfold kIntT at q
    split at q
    · rename_i fr a
      obtain ⟨v, rfl, hv⟩ := avs_one h
      cases hn : PySem.intText? a with
      | none => rw [hn] at q; exact q.elim
      | some n =>
        rw [hn] at q
        simp only [R.ofO, R.bind] at q
        rcases gq_cases (decide (a.length ≤ 640)) (AV.d true (.int n)) with e | ⟨hc, e⟩
        · rw [e] at q; exact q.elim
        · rw [e] at q
          exact ⟨a, n, by rw [dn_str hv], hn, of_decide_eq_true hc, Pk.v q S (.int _)⟩
    · exact q.elim) (by decide +kernel) (by decide +kernel) he
theorem ce_globS (C : Cf0 X W sc N) {v : Str} (h : ∃ t, X.mg x = some (.str v t)) (hg : glB sc x = true) (hdb : (x == ("__debug__" : Str)) = false := by decide +kernel) : CE X W (.Name x pos) (dC (.str v)) := by
  obtain ⟨t, h⟩ := h
  exact ce_glob C hg h (v := .str v) ⟨t, rfl⟩ (fun _ _ => .str v) hdb
def kInS (_ : List Sl) (x y : AV) : R Bool := match strO x, strO y with
  | some a, some z => match a.cps.toList with
    | [c] => .val (decide (c ∈ z.cps.toList))
    | _ => .bad
  | _, _ => .bad
theorem ce_inS (ha : CE X W a f) (hb : CE X W b g) (hm : behindInMarks .In b = false := by rfl) : CE X W (.Compare a [.In] [b] pos) (dCmp kInS f g) :=
  ce_cmp2 (fun x y Γ2 => boolR (kInS Γ2 x y) Γ2) op_in_sign hm ha hb fun x y Γ2 G H σ u v Q S hu hv p => by
    unfold kInS at p
    split at p
    · rename_i s z h1 h2
      obtain ⟨fr, rfl⟩ := strO_ok h1
      obtain ⟨fr2, rfl⟩ := strO_ok h2
      split at p
      · rename_i c hc
        have es : s = ⟨#[c]⟩ := by
          cases s with
          | mk cs =>
            have : cs = #[c] := by
              apply Array.ext'
              simpa using hc
            rw [this]
        exact ⟨c, z, by rw [dn_str hu, es], dn_str hv, Pk.v p S (.bl _)⟩
      · exact p.elim
    · exact p.elim
def signs (z : Str) : List PyData := z.cps.toList.map fun c => .str ⟨#[c]⟩
def iTxt (f : DF) : DI := fun Γ => (f Γ).bind fun x => (R.ofO (strO x.1)).bind fun z => .val ((signs z, true), x.2)
theorem itd_txt {K : PySem.W.Frag} {G : Gh} {H : Hp} (z : Str) : ItD K G H (Its z) (signs z) true := by
  have hl : (signs z).length = z.cps.size := by unfold signs; simp
  refine ⟨fun i G2 H2 hi e => ?_, fun i G2 H2 σ Γ v H3 hi e S y => ?_, fun G2 H2 e => ?_⟩
  · show i < z.cps.size
    omega
  · obtain ⟨rfl, c, hc, rfl⟩ := y
    refine ⟨G2, .str ⟨#[c]⟩, ?_, Ext.rf S.w, S, .str _⟩
    unfold signs
    rw [List.getElem?_map, Array.getElem?_toList, hc]; rfl
  · show z.cps.size ≤ (signs z).length
    omega
theorem ci_txt (ha : CE X W e f) : CI X W tg e (iTxt f) := fun Γ =>
  pi_imp (pi_str (ha Γ)) fun σ H Q ⟨G, S, q⟩ => ⟨G, S, (Pst.bind q).imp fun x G1 H1 e1 q1 v S1 hv => by
    obtain ⟨z, hz, q1⟩ := Pst.ofO q1
    obtain ⟨fr, hx⟩ := strO_ok hz
    rw [hx] at hv
    exact ⟨z, dn_str hv, q1 G1 H1 (Ext.rf S1.w) _ S1 (itd_txt z)⟩⟩
end
end PD
set_option Elab.async false
set_option linter.all false
set_option maxRecDepth 100000
set_option maxHeartbeats 4000000
set_option autoImplicit false
namespace PD
open PySem PySem.Spec L2
open PyProof.Rows hiding St
def txD (l : List Str) (v : Str) : List Str := if l.any (· == v) then l else l ++ [v]
def txM (xs : List Str) (i : Nat) : List Str := (xs.take i).foldl txD []
theorem txM_succ {xs : List Str} {i : Nat} (h : i < xs.length) : txM xs (i + 1) = txD (txM xs i) (xs.getD i Str.empty) := by
  unfold txM
  rw [List.take_succ, List.getElem?_eq_getElem h, List.foldl_append, List.getD_eq_getElem?_getD, List.getElem?_eq_getElem h]
  rfl
theorem txD_any (l : List Str) (v k : Str) : (txD l v).any (· == k) = (l.any (· == k) || decide (k = v)) := by
  unfold txD
  by_cases h : l.any (· == v) = true
  · rw [if_pos h]
    by_cases e : k = v
    · subst e; rw [h]; simp
    · simp [e]
  · rw [if_neg h, List.any_append]
    by_cases e : k = v
    · subst e; simp
    · have hb : (v == k) = false := by simpa [beq_iff_eq] using (fun h' : v = k => e h'.symm)
      simp [hb, e]
theorem txD_len (l : List Str) (v : Str) : (txD l v).length = if l.any (· == v) then l.length else l.length + 1 := by
  unfold txD; split <;> simp
theorem txM_le (xs : List Str) : ∀ i, i ≤ xs.length → (txM xs i).length ≤ i
  | 0, _ => Nat.le_refl _
  | i + 1, h => by
    rw [txM_succ (by omega), txD_len]
    have := txM_le xs i (by omega)
    split <;> omega
section
variable {prog : Program} {w : World} {A : Around} {R : Result → Shared → Prop} {I : Addr} {fp wr : List Addr} {G : Array GenState → Array GenState → Prop} {P : Nat → Value → Prop} {St : Nat → Shared → Prop}
theorem set_loop_tx (S : Addr) (hSf : S ∉ fp) (xs : List Str) (W : WalksS prog w A.in1 I fp wr G xs.length P St) (hval : ∀ i v, P i v → ∃ t, v = .str (xs.getD i Str.empty) t) (hb : xs.length + 1 < scanBound) :
    ∀ (k i : Nat) (s : Shared), xs.length - i = k → i ≤ xs.length → St i s →
      s.heap.SetOf (PySem.strKind prog w) S (fun k' => (txM xs i).any (· == k')) (txM xs i).length →
      (∀ s', Moved (S :: wr) G s s' → s'.heap.SetOf (PySem.strKind prog w) S (fun k' => (txM xs xs.length).any (· == k')) (txM xs xs.length).length → R (.ok (.ret .none)) s') →
      codeAny (model prog w) A (.builtin "set.update.loop" ⟨[.ref S, .ref I], []⟩) R s := by
  have hSw : S ∉ wr := fun h => hSf (W.sub _ h)
  have hsub : ∀ b ∈ wr, b ∈ S :: wr := fun b hb => List.mem_cons_of_mem _ hb
  intro k
  induction k with
  | zero =>
    intro i s hk hi hst hS hR
    have hin : i = xs.length := by omega
    subst hin
    refine codeAny_builtin PyProof.Rows.F.entry_set_update_loop ?_
    rw [Around.under_plainId PyProof.Rows.F.plain_set_update_loop _]
    show wpAny _ A.in1 (pyNext (.ref I) >>= _) _ _ s
    refine wpAny_bind (W.done s _ _ hst fun s' hm => ?_)
    show wpAny _ A.in1 (ret Value.none) _ _ s'
    exact wpAny_pure (hR s' (hm.mono hsub) (by
      obtain ⟨o, es, ep, t, ho, rest⟩ := hS
      exact ⟨o, es, ep, t, hm.heap S _ hSw ho, rest⟩))
  | succ k ih =>
    intro i s hk hi hst hS hR
    have hlt : i < xs.length := by omega
    refine codeAny_builtin PyProof.Rows.F.entry_set_update_loop ?_
    rw [Around.under_plainId PyProof.Rows.F.plain_set_update_loop _]
    show wpAny _ A.in1 (pyNext (.ref I) >>= _) _ _ s
    refine wpAny_bind (W.item i s _ _ hlt hst fun v s' hP hst' hm => ?_)
    obtain ⟨t, rfl⟩ := hval i v hP
    have hS' : s'.heap.SetOf (PySem.strKind prog w) S (fun k' => (txM xs i).any (· == k')) (txM xs i).length := by
      obtain ⟨o, es, ep, tb, ho, rest⟩ := hS
      exact ⟨o, es, ep, tb, hm.heap S _ hSw ho, rest⟩
    show wpAny _ A.in1 (holding [Value.str (xs.getD i Str.empty) t] (setAdd S (.str (xs.getD i Str.empty) t)) >>= _) _ _ s'
    refine wpAny_bind (wpAny_holding ?_)
    unfold setAdd
    refine wpAny_holding ?_
    refine wpAny_bind ((PySem.strKind prog w).pyHash (k := xs.getD i Str.empty) (strKind_is _ _ _ _) ?_)
    have hroom : (txM xs i).length + 1 < scanBound := by have := txM_le xs i hi; omega
    refine wpAny_setAddHashed_of (knd := PySem.strKind prog w) (s := { s' with toks := s'.toks + 1 }) (strKind_is _ _ _ _) rfl hS' hroom fun h' hsb hS2 => ?_
    have hSi : h'.SetOf (PySem.strKind prog w) S (fun k' => (txM xs (i + 1)).any (· == k')) (txM xs (i + 1)).length :=
      SetOf_congr hS2 (fun k' => by rw [txM_succ hlt, txD_any]) (by rw [txM_succ hlt, txD_len])
    refine wpAny_pure ⟨plainId_quiet PyProof.Rows.F.plain_set_update_loop _, ih (i + 1) _ (by omega) hlt (W.frame _ s' _ _ hst' (Nat.le_succ _) fun b hb o e => ?_) hSi fun s'' hm'' hS'' => ?_⟩
    · rw [hsb.2 b (fun h : b = S => hSf (by rw [← h]; exact hb))]; exact e
    · refine hR s'' (Moved.trans W.gtrans ((hm.mono hsub).then_heap (Nat.le_succ _) fun b o hb e => ?_) hm'') hS''
      rw [hsb.2 b (fun h : b = S => hb (by rw [h]; exact List.mem_cons_self))]; exact e
end
section
variable {prog : Program} {w : World} {A : Around} {E : Value → Shared → Prop} {s : Shared}
set_option maxHeartbeats 3200000 in
theorem call_set_txs {l : Addr} {items : Array Value} {xs : List Str} {Q : Value → Shared → Prop}
    (hh : A.handled = none) (hl : s.heap.IsList l items) (hi : PyProof.Rows.StrsAre items.toList xs) (hb : xs.length + 1 < scanBound)
    (h : ∀ (h' : Heap) (tk : Nat), h'.SetOf (PySem.strKind prog w) s.heap.objs.size (fun k' => (txM xs xs.length).any (· == k')) (txM xs xs.length).length →
      (∀ b o, b < s.heap.objs.size → s.heap.get? b = some o → h'.get? b = some o) → Q (.ref s.heap.objs.size) { s with heap := h', toks := tk }) :
    wpAny (model prog w) A (call (.type "set") [.ref l]) Q E s := by
  obtain ⟨c, tl, hmro⟩ := PySem.F.called_set.mro
  have hmade := PySem.F.called_set.made
  have hsub := PySem.F.called_set.sub
  refine wpAny_call (codeAny_of_tree ?_)
  show wpAny _ _ (callAny (.type "set") _) _ _ _
  refine wpAny_pure ⟨Code.quiet_builtin _ (by decide +kernel), codeAny_builtin PySem.F.entry_type_call ?_⟩
  rw [Around.under_plain (weight_type_call_type "set" [.ref l] []) rfl]
  have h1 := PySem.F.called_set.notType
  have h2 := PySem.F.called_set.canCreate
  have hct := PySem.F.typeCall_set_1 (.ref l)
  repeat (any_goals (first | assumption | wp_step))
  refine codeAny_mono (code_set_new_1 (.ref l) (E := E) (Q₁ := fun obj s₁ => ∃ led : Bool, obj = .ref s.heap.objs.size ∧ s₁ = { s with heap := s.heap.push { cls := .type "set", dict := none, data := .set #[] 0 (.fresh 0 0 led) } }) fun led => ⟨led, rfl, rfl⟩) fun r s₁ hr => ?_
  cases r with
  | error e => exact hr
  | ok fl =>
    cases fl with
    | ret obj =>
      obtain ⟨led, rfl, rfl⟩ := hr
      have hS : (s.heap.push { cls := .type "set", dict := none, data := .set #[] 0 (.fresh 0 0 led) }).get? s.heap.objs.size = some { cls := .type "set", dict := none, data := .set #[] 0 (.fresh 0 0 led) } := Heap.get?_push_size _ rfl
      have hT : Shared.TypeIs { s with heap := s.heap.push { cls := .type "set", dict := none, data := .set #[] 0 (.fresh 0 0 led) } } (.ref s.heap.objs.size) "set" := ⟨_, hS, rfl⟩
      have hli := PySem.F.called_set.init.lookup
      have hbi := PySem.F.called_set.init.bind (.ref s.heap.objs.size)
      repeat (any_goals (first | assumption | wp_step))
      refine codeAny_mono (codeAny_call_builtin (R := wants (fun r s₂ => r = .none ∧ ∃ h' tk, s₂ = { s with heap := h', toks := tk } ∧
          h'.SetOf (PySem.strKind prog w) s.heap.objs.size (fun k' => (txM xs xs.length).any (· == k')) (txM xs xs.length).length ∧
          (∀ b o, b < s.heap.objs.size → s.heap.get? b = some o → h'.get? b = some o)) E) PySem.F.called_set.init.plain PySem.F.entry_set_init (check_set_init_1 hT ?_)) fun r₂ s₂ hr₂ => ?_
      · obtain ⟨ol, hol, hcl, nl, hdl⟩ := hl
        obtain ⟨ocls, odict, odata, oslots⟩ := ol
        simp only at hcl hdl
        subst hcl; subst hdl
        have hol' : (s.heap.push { cls := .type "set", dict := none, data := .set #[] 0 (.fresh 0 0 led) }).get? l = some { cls := .type "list", dict := odict, data := .seq items nl, slots := oslots } := Heap.get?_push_of_some _ hol
        have hsls := PySem.F.sub_list_set
        have hslf := PySem.F.sub_list_frozenset
        have hne : (Value.type "list" == Value.type "dict") = false := by decide
        have hl1 : (s.heap.push { cls := .type "set", dict := none, data := .set #[] 0 (.fresh 0 0 led) }).IsList l items := ⟨_, hol', rfl, nl, rfl⟩
        unfold Builtin.«set.__init__» noKeywords Builtin.Frozenset.updateFrom
        generalize hPI : pyIter = PI
        wp_walk
        subst hPI
        refine wpAny_pyIter_list hl1 ?_
        refine wpAny_bind (wpAny_runValue ?_)
        have hlS : l < s.heap.objs.size := Heap.lt_size hol
        have hh3 : A.in1.in1.in1.handled = none := by simp [hh]
        have hneI : l ≠ (s.heap.push { cls := .type "set", dict := none, data := .set #[] 0 (.fresh 0 0 led) }).objs.size := by
          rw [Heap.size_push]; exact Nat.ne_of_lt (Nat.lt_succ_of_lt hlS)
        have hSf : s.heap.objs.size ∉ [(s.heap.push { cls := .type "set", dict := none, data := .set #[] 0 (.fresh 0 0 led) }).objs.size, l] := by
          rw [Heap.size_push]; simp only [List.mem_cons, List.mem_singleton, List.not_mem_nil, or_false, not_or]
          exact ⟨Nat.ne_of_lt (Nat.lt_succ_self _), Nat.ne_of_gt hlS⟩
        have hsz : items.size = xs.length := by rw [← StrsAre.len_eq hi, Array.length_toList]
        have hval : ∀ (i : Nat) (v : Value), items[i]? = some v → ∃ t, v = .str (xs.getD i Str.empty) t := fun i v hv => SS.strs_at hi i v (by rw [Array.getElem?_toList]; exact hv)
        have hW := (Walks.list hh3 _ l hneI items).toS (prog := prog) (w := w)
        rw [hsz] at hW
        refine set_loop_tx s.heap.objs.size hSf xs hW hval hb (xs.length - 0) 0 _ (by omega) (Nat.zero_le _)
          ⟨⟨_, Heap.get?_push_size _ rfl, rfl, rfl⟩, (hl1.push _)⟩ ?hS0 ?hR
        case hS0 =>
          have hget : ((s.heap.push { cls := .type "set", dict := none, data := .set #[] 0 (.fresh 0 0 led) }).push { cls := .type "list_iterator", data := .fields #[.ref l, .int 0 0] }).get? s.heap.objs.size
              = some { cls := .type "set", dict := none, data := .set #[] 0 (.fresh 0 0 led) } := Heap.get?_push_of_some _ hS
          exact PyProof.Rows.SetOf_congr ((PyProof.Rows.setObjOf_fresh (knd := PySem.strKind prog w) led).setOf hget (by unfold scanBound; omega)) (fun _ => rfl) rfl
        case hR =>
          intro s' hm hS'
          obtain ⟨h', g', d', tk', os'⟩ := s'
          have eg : g' = s.gens := hm.gens
          have ed : d' = s.drawn := hm.drawn
          have eo : os' = s.os := hm.os
          subst eg; subst ed; subst eo
          show wpAny _ _ _ _ _ _
          refine wpAny_pure ?_
          show wpAny _ _ (ret Value.none) _ _ _
          refine wpAny_pure ⟨rfl, h', tk', rfl, hS', fun b o hb e => ?_⟩
          have hb1 : b ≠ s.heap.objs.size := Nat.ne_of_lt hb
          have hb2 : b ≠ (s.heap.push { cls := .type "set", dict := none, data := .set #[] 0 (.fresh 0 0 led) }).objs.size := by
            rw [Heap.size_push]; exact Nat.ne_of_lt (Nat.lt_succ_of_lt hb)
          exact hm.heap b o (by simp only [List.mem_cons, List.mem_singleton, List.not_mem_nil, or_false, not_or]; exact ⟨hb1, hb2⟩) (Heap.get?_push_of_some _ (Heap.get?_push_of_some _ e))
      · cases r₂ with
        | error e => exact hr₂
        | ok fl₂ =>
          cases fl₂ with
          | ret r =>
            obtain ⟨rfl, h', tk, rfl, hS', hk'⟩ := hr₂
            repeat (any_goals (first | assumption | wp_step))
            exact h _ _ hS' hk'
          | _ => exact hr₂.elim
    | _ => exact hr.elim
end
section
variable {X : Cx} {W : WX} {sc : Scope} {N : List Str} {a e : Expr} {pos p p2 q2 : Pos} {f : DF}
theorem pe_lenSetTx {ta : TE} (hc : X.calm = true) (hg : Gl X "len") (hm : X.mg "len" = none) (hg2 : Gl X "set") (hm2 : X.mg "set" = none) (ha : PE X a ta)
    (na : starEach [a] X.env = (false, eval a X.env) :: starEach [] X.env := by rfl) : PE X (.Call (.Name "len" p) [.Call (.Name "set" p2) [a] [] q2] [] pos)
      (fun σ H Q => ta σ H fun x H1 => ∃ (l : Addr) (xs : List Str), x = .ref l ∧ SqL X.K H1 l (xs.map V.str) ∧ xs.length < 4000 ∧ Q (.int ((txM xs xs.length).length : Nat)) H1) := by
  refine ⟨fun pins s σ H Q I h => ?_⟩
  refine Call_ (ld_blt I hg hm PySem.boot_len ?_)
  refine callWith_builtin1 (args_cons ?_ rfl) rfl rfl
  refine Call_ (ld_blt I hg2 hm2 boot_set ?_)
  refine callWith_type1 (args_cons (thn (ha.run pins s σ H _ I h) fun v s1 ⟨x, H1, I1, r1, q1⟩ => args_nil ?_) na) na rfl
  obtain ⟨l, xs, rfl, hq, hlen, q1⟩ := q1
  cases r1
  obtain ⟨its, r, pl, hz⟩ := I1.list hq
  refine call_set_txs (I1.ok.hd hc) pl.isList (by simpa using L2.strsAre_of r) (by unfold scanBound; omega) fun h' tk hS hk => args_nil ?_
  have I2 : Inv X pins σ H1 { s1 with heap := h', toks := tk } := I1.kept fun b o e => hk b o (Heap.lt_size e) e
  have hle := txM_le xs xs.length (Nat.le_refl _)
  obtain ⟨o, es, ep, t, ho, hex, hd, _, _, _, hf, hn⟩ := hS
  exact call_len_set ho hex hd hf (by rw [hn] <;> omega) ⟨.int ((txM xs xs.length).length : Nat), H1, I2.tok _, ⟨_, by rw [hn]⟩, q1⟩
def kLsetTx (Γ : List Sl) (x : AV) : R Int := match rdD Γ x with
  | some (.list ds) => (R.ofO (strsO ds)).bind fun xs => gq (decide (xs.length < 4000)) (((txM xs xs.length).length : Nat) : Int)
  | _ => .bad
def dLsetT (f : DF) : DF := fun Γ => (f Γ).bind fun z => (kLsetTx z.2 z.1).bind fun n => .val (.d true (.int n), z.2)
theorem ce_lsetT (C : Cf X W sc N) (hg : glB sc "len" = true) (hm : X.mg "len" = none) (hg2 : glB sc "set" = true) (hm2 : X.mg "set" = none) (ha : CE X W a f) (na : starEach [a] X.env = (false, eval a X.env) :: starEach [] X.env := by rfl) :
    CE X W (.Call (.Name "len" p) [.Call (.Name "set" p2) [a] [] q2] [] pos) (dLsetT f) := fun Γ =>
  pe_imp (pe_lenSetTx C.calm (C.gl hg) hm (C.gl hg2) hm2 (ha Γ) na) fun σ H Q ⟨G, S, q⟩ => ⟨G, S, (Pst.bind q).imp fun x G1 H1 e1 p1 v S1 hv => by
    unfold kLsetTx at p1
    split at p1
    · rename_i ds hz
      obtain ⟨l, ws, rfl, hl0, hd0⟩ := dn_list ((rdD_ok hz).ok S1 hv)
      cases hi : strsO ds with
      | none => rw [hi] at p1; exact p1.elim
      | some xs =>
        rw [hi] at p1
        rcases gq_cases (decide (xs.length < 4000)) (((txM xs xs.length).length : Nat) : Int) with e | ⟨hc, e⟩
        · have p1 : Pst X W G1 H1 σ ((gq (decide (xs.length < 4000)) (((txM xs xs.length).length : Nat) : Int)).bind fun n => .val (AV.d true (.int n), x.2)) _ := p1
          rw [e] at p1; exact p1.elim
        · have p1 : Pst X W G1 H1 σ ((gq (decide (xs.length < 4000)) (((txM xs xs.length).length : Nat) : Int)).bind fun n => .val (AV.d true (.int n), x.2)) _ := p1
          rw [e] at p1
          rw [strsO_ok hi] at hd0
          rw [dna_strs hd0] at hl0
          exact ⟨l, xs, rfl, hl0.sq, of_decide_eq_true hc, p1 G1 H1 (Ext.rf S1.w) _ S1 (.int _)⟩
    · exact p1.elim⟩
end
end PD
set_option Elab.async false
set_option linter.all false
set_option maxRecDepth 100000
set_option maxHeartbeats 0
namespace PDW
open PySem PySem.Spec PyProof.Rows L2 PD
def top (i : Nat) : Stmt := PySem.Challenge.pw_badbegins_k80_named_nets_written.main.body.getD i (.Pass ⟨0, 0, 0, 0⟩)
def dd0 : He.DefD := ⟨("law", none), "law", "law", defArgs (top 30), defBody (top 30), defScope (top 30), [], []⟩
def dd1 : He.DefD := ⟨("_law_named", none), "_law_named", "_law_named", defArgs (top 27), defBody (top 27), defScope (top 27), [], []⟩
def dd2 : He.DefD := ⟨("_law_take", none), "_law_take", "_law_take", defArgs (top 23), defBody (top 23), defScope (top 23), [], []⟩
def dd3 : He.DefD := ⟨("_law_names", none), "_law_names", "_law_names", defArgs (top 25), defBody (top 25), defScope (top 25), [], []⟩
def dd4 : He.DefD := ⟨("_law_word", none), "_law_word", "_law_word", defArgs (top 24), defBody (top 24), defScope (top 24), [], []⟩
def dd5 : He.DefD := ⟨("_law_price", none), "_law_price", "_law_price", defArgs (top 26), defBody (top 26), defScope (top 26), [], []⟩
def dd6 : He.DefD := ⟨("_law_feed", none), "_law_feed", "_law_feed", defArgs (top 22), defBody (top 22), defScope (top 22), [], []⟩
def dd7 : He.DefD := ⟨("_law_text", none), "_law_text", "_law_text", defArgs (top 28), defBody (top 28), defScope (top 28), [], []⟩
def dd8 : He.DefD := ⟨("read_net", none), "read_net", "read_net", defArgs (top 16), defBody (top 16), defScope (top 16), [], []⟩
def dd9 : He.DefD := ⟨("row_in", none), "row_in", "row_in", defArgs (top 15), defBody (top 15), defScope (top 15), [], []⟩
def dd10 : He.DefD := ⟨("is_name", none), "is_name", "is_name", defArgs (top 13), defBody (top 13), defScope (top 13), [], []⟩
def dd11 : He.DefD := ⟨("price_in", none), "price_in", "price_in", defArgs (top 14), defBody (top 14), defScope (top 14), [], []⟩
def dd12 : He.DefD := ⟨("_law_same", none), "_law_same", "_law_same", defArgs (top 29), defBody (top 29), defScope (top 29), [], []⟩
def dd13 : He.DefD := ⟨("show_net", none), "show_net", "show_net", defArgs (top 17), defBody (top 17), defScope (top 17), [], []⟩
def dd14 : He.DefD := ⟨("prices_in", none), "prices_in", "prices_in", defArgs (top 20), defBody (top 20), defScope (top 20), [], []⟩
def dd15 : He.DefD := ⟨("net_in", none), "net_in", "net_in", defArgs (top 19), defBody (top 19), defScope (top 19), [], []⟩
def dd16 : He.DefD := ⟨("names_in", none), "names_in", "names_in", defArgs (top 18), defBody (top 18), defScope (top 18), [], []⟩
def dd17 : He.DefD := ⟨("net_of", none), "net_of", "net_of", defArgs (top 7), defBody (top 7), defScope (top 7), [], []⟩
def dd18 : He.DefD := ⟨("are_elders", none), "are_elders", "are_elders", defArgs (top 6), defBody (top 6), defScope (top 6), [], []⟩
def dd19 : He.DefD := ⟨("NoText", some "__init__"), "__init__", "NoText.__init__", defArgs (clsInit (top 3)), defBody (clsInit (top 3)), defScope (clsInit (top 3)), [], []⟩
def dd20 : He.DefD := ⟨("NoNet", some "__init__"), "__init__", "NoNet.__init__", defArgs (clsInit (top 2)), defBody (clsInit (top 2)), defScope (clsInit (top 2)), [], []⟩
def fnD : List He.DefD := [dd0, dd1, dd2, dd3, dd4, dd5, dd6, dd7, dd8, dd9, dd10, dd11, dd12, dd13, dd14, dd15, dd16, dd17, dd18, dd19, dd20]
def faD : List He.Fa := ([.glo "law", .glo "_law_named", .glo "_law_take", .glo "_law_names", .glo "_law_word", .glo "_law_price", .glo "_law_feed", .glo "_law_text", .glo "read_net", .glo "row_in", .glo "is_name", .glo "price_in"] : List He.Fa) ++ ([.glo "_law_same", .glo "show_net", .glo "prices_in", .glo "net_in", .glo "names_in", .glo "net_of", .glo "are_elders", .free "range", .free "len", .free "int", .free "tuple", .free "list"] : List He.Fa) ++ ([.free "str", .free "sorted", .free "isinstance", .free "enumerate", .free "all", .free "set", .free "zip", .free "bool", .str "LETTERS" "abcdefghijklmnopqrstuvwxyz", .str "FIGURES" "0123456789", .int "MOST_PRICE" 1000000000000000000000000000000, .int "MOST_ROWS" 40] : List He.Fa) ++ ([.int "MOST" 40, .glo "NoNet", .glo "NoText", .glo "HuntError"] : List He.Fa)
def fxD : List (PySem.W.Frag → Bool) := [fun K => PD.xallB K ["NoNet", "NoText"] [] [] ["make", "row"], PD.huntB, fun K => PD.iniB K "NoText", fun K => PD.iniB K "NoNet"]
abbrev RR : PySem.W.OpenRow := PySem.W.OpenLaw.row PySem.Challenge.rw_badbegins_k80_named_nets_written
abbrev hkD : PySem.W.Hook := PD.hookX 4 fxD faD fnD
def obD (z : PySem.W.SharedT) : He.AlD := PD.obsXG 4 fxD faD fnD (HandSHeadRun.getT z)
theorem obD_eq (z : PySem.W.SharedT) : obD z = hkD.obs z.abs := PD.obsXG_eq (HandSHeadRun.getT_eq z)
def looseD : List Str := (["HuntError", "NoNet", "NoText", "MOST", "are_elders", "net_of", "LETTERS", "FIGURES", "MOST_ROWS", "MOST_PRICE", "is_name", "price_in"] : List Str) ++ (["row_in", "read_net", "show_net", "names_in", "net_in", "prices_in", "_law_feed", "_law_take", "_law_word", "_law_names", "_law_price", "_law_named"] : List Str) ++ (["_law_text", "_law_same"] : List Str)
theorem runD (w : World) : HandSHeadRun.RunEq RR (PySem.W.view RR.prog [30]) hkD obD 4000 looseD w := by
  intro os
  kernel_rfl
end PDW
set_option linter.all false
set_option maxRecDepth 100000
set_option autoImplicit false
namespace PD
open PySem L2
def Ok {α : Type} (m : R α) (P : α → Prop) : Prop := ∃ a, m = .val a ∧ P a
section
variable {α β : Type} {P : α → Prop} {Q : β → Prop}
theorem ok_val {a : α} (h : P a) : Ok (.val a) P := ⟨a, rfl, h⟩
theorem ok_bind {m : R α} {k : α → R β} (h : Ok m P) (hk : ∀ a, P a → Ok (k a) Q) : Ok (m.bind k) Q := by
  obtain ⟨a, rfl, p⟩ := h
  exact hk a p
theorem Ok.mono {P' : α → Prop} {m : R α} (h : Ok m P) (hk : ∀ a, P a → P' a) : Ok m P' := by
  obtain ⟨a, e, p⟩ := h
  exact ⟨a, e, hk a p⟩
theorem ok_of {m : R α} {a : α} (h : m = .val a) (p : P a) : Ok m P := ⟨a, h, p⟩
theorem ok_eq {m : R α} {a : α} (h : Ok m fun z => z = a) : m = .val a := by
  obtain ⟨b, e, rfl⟩ := h
  exact e
end
theorem bind_val {α β : Type} (a : α) (k : α → R β) : (R.val a).bind k = k a := rfl
theorem req_true : R.req true = .val () := rfl
theorem ofO_some {α : Type} (a : α) : R.ofO (some a) = .val a := rfl
theorem gq_of {α : Type} {c : Bool} (a : α) (h : c = true) : gq c a = .val a := by subst h; rfl
theorem ok_loopU {is : List Nat} {g : DG} {fr : Bool} {b : DS} {Post : Fw × List Sl → Prop} (Inv : Nat → List Sl → Prop) (ds : List PyData) {Γ : List Sl} (h0 : Inv 0 (wipeG Γ is))
    (hb : ∀ i d Γ, ds[i]? = some d → Inv i Γ → ∃ Γ1, g fr d Γ = some Γ1 ∧ Ok (b Γ1) fun z => match z.1 with
      | .nx => Inv (i + 1) (wipeG z.2 is)
      | .ct => Inv (i + 1) (wipeG z.2 is)
      | .bk => Post (.nx, wipeG z.2 is)
      | .rt r => Post (.rt r, z.2)) (hd : ∀ Γ, Inv ds.length Γ → Post (.nx, Γ)) : Ok (loopU is g fr b ds Γ) Post := by
  have key : ∀ (n : Nat) (xs : List PyData) (Γ : List Sl), (∀ j, xs[j]? = ds[n + j]?) → n + xs.length = ds.length → Inv n (wipeG Γ is) → Ok (loopU is g fr b xs Γ) Post := by
    intro n xs
    induction xs generalizing n with
    | nil =>
      intro Γ _ hl h
      unfold loopU
      refine ok_val (hd _ ?_)
      have : ds.length = n := by simpa using hl.symm
      rw [this]; exact h
    | cons d xs ih =>
      intro Γ hx hl h
      unfold loopU
      obtain ⟨Γ1, e1, o⟩ := hb n d _ (by have := hx 0; simpa using this.symm) h
      rw [e1, ofO_some, bind_val]
      refine ok_bind o fun z hz => ?_
      obtain ⟨w, Γ2⟩ := z
      have hx' : ∀ j, xs[j]? = ds[n + 1 + j]? := fun j => by
        have := hx (j + 1)
        simp only [List.getElem?_cons_succ] at this
        rw [this]; congr 1; omega
      cases w with
      | nx => exact ih (n + 1) Γ2 hx' (by simp at hl; omega) hz
      | ct => exact ih (n + 1) Γ2 hx' (by simp at hl; omega) hz
      | bk => exact ok_val hz
      | rt r => exact ok_val hz
  exact key 0 ds Γ (fun j => by simp) (by simp) h0
theorem ok_loopW {is : List Nat} {c : DT} {b : DS} {Post : Fw × List Sl → Prop} (Inv : Nat → List Sl → Prop)
    (hb : ∀ n Γ, Inv n Γ → Ok (c Γ) fun x => if x.1 then Ok (b x.2) fun z => match z.1 with
      | .nx => ∃ m, m < n ∧ Inv m (wipeG z.2 is)
      | .ct => ∃ m, m < n ∧ Inv m (wipeG z.2 is)
      | .bk => Post (.nx, wipeG z.2 is)
      | .rt r => Post (.rt r, z.2) else Post (.nx, x.2)) : ∀ (fuel n : Nat) (Γ : List Sl), n < fuel → Inv n (wipeG Γ is) → Ok (loopW is c b fuel Γ) Post := by
  intro fuel
  induction fuel with
  | zero => intro n Γ h; omega
  | succ f ih =>
    intro n Γ hn h
    unfold loopW
    refine ok_bind (hb n _ h) fun x hx => ?_
    by_cases e : x.1 = true
    · rw [if_pos e] at hx ⊢
      refine ok_bind hx fun z hz => ?_
      obtain ⟨w, Γ2⟩ := z
      cases w with
      | nx => obtain ⟨m, h1, h2⟩ := hz; exact ih m Γ2 (by omega) h2
      | ct => obtain ⟨m, h1, h2⟩ := hz; exact ih m Γ2 (by omega) h2
      | bk => exact ok_val hz
      | rt r => exact ok_val hz
    · rw [if_neg e] at hx ⊢
      exact ok_val hx
theorem ok_compU {vs : List Nat} {g : DG} {fr : Bool} {t : DT} {e : DF} {Post : List PyData × List Sl → Prop} (Inv : Nat → List PyData → List Sl → Prop) (ds : List PyData) {Γ : List Sl} (h0 : Inv 0 [] Γ)
    (hb : ∀ i d out Γ, ds[i]? = some d → Inv i out Γ → ∃ Γ1, g fr d Γ = some Γ1 ∧ Ok (t Γ1) fun x => if x.1 then Ok (e x.2) fun y => ∃ o, avD y.1 = some o ∧ Inv (i + 1) (out ++ [o]) (wipeG y.2 vs) else Inv (i + 1) out (wipeG x.2 vs))
    (hd : ∀ out Γ, Inv ds.length out Γ → Post (out, Γ)) : Ok (compU vs g fr t e ds Γ) Post := by
  have key : ∀ (n : Nat) (xs : List PyData) (pre : List PyData) (Γ : List Sl), (∀ j, xs[j]? = ds[n + j]?) → n + xs.length = ds.length → Inv n pre Γ → Ok (compU vs g fr t e xs Γ) fun z => Post (pre ++ z.1, z.2) := by
    intro n xs
    induction xs generalizing n with
    | nil =>
      intro pre Γ _ hl h
      unfold compU
      refine ok_val ?_
      have : ds.length = n := by simpa using hl.symm
      show Post (pre ++ [], Γ)
      rw [List.append_nil]
      exact hd _ _ (by rw [this]; exact h)
    | cons d xs ih =>
      intro pre Γ hx hl h
      rw [compU_cons]
      obtain ⟨Γ1, e1, o⟩ := hb n d pre Γ (by have := hx 0; simpa using this.symm) h
      have hx' : ∀ j, xs[j]? = ds[n + 1 + j]? := fun j => by
        have := hx (j + 1)
        simp only [List.getElem?_cons_succ] at this
        rw [this]; congr 1; omega
      rw [e1]
      obtain ⟨x, ex, ox⟩ := o
      rw [ofO_some, bind_val, ex]
      show Ok (if x.1 then _ else _) _
      by_cases hc : x.1 = true
      · rw [if_pos hc] at ox ⊢
        obtain ⟨y, ey, w, ew, hw⟩ := ox
        rw [ey]
        show Ok ((R.ofO (avD y.1)).bind _) _
        rw [ew, ofO_some, bind_val]
        refine ok_bind (ih (n + 1) (pre ++ [w]) _ hx' (by simp at hl; omega) hw) fun r hr => ok_val ?_
        show Post (pre ++ w :: r.1, r.2)
        have : pre ++ w :: r.1 = pre ++ [w] ++ r.1 := by simp
        rw [this]; exact hr
      · rw [if_neg hc] at ox ⊢
        exact ih (n + 1) pre _ hx' (by simp at hl; omega) ox
  have := key 0 ds [] Γ (fun j => by simp) (by simp) h0
  refine this.mono fun z hz => ?_
  simpa using hz
end PD
set_option linter.all false
set_option maxRecDepth 100000
set_option autoImplicit false
namespace PD
open PySem L2
section
variable {Γ Γ1 Γ2 Γ3 : List Sl} {f g h : DF} {k : DA} {n : DN} {c : DC} {t t2 : DT} {fr fr2 : Bool} {d : PyData} {i j : Int} {z z2 : Bool} {ds es : List PyData} {a b : AV} {as : List AV}
theorem e_var {m : Nat} (e : Γ[m]? = some (.dat fr d)) : dVar m Γ = .val (.d fr d, Γ) := by unfold dVar; rw [e]
theorem e_varO {m : Nat} {c : Cl} (e : Γ[m]? = some (.own c)) : dVar m Γ = .val (.s m, Γ) := by unfold dVar; rw [e]
theorem e_varI {m : Nat} {c : Cl} (e : Γ[m]? = some (.io c)) : dVar m Γ = .val (.s m, Γ) := by unfold dVar; rw [e]
theorem e_C : dC d Γ = .val (.d true d, Γ) := rfl
theorem e_I {kk : Int → Int → R Int} {r : Int} (h1 : f Γ = .val (.d fr (.int i), Γ1)) (h2 : g Γ1 = .val (.d fr2 (.int j), Γ2)) (h3 : kk i j = .val r) : dI kk f g Γ = .val (.d true (.int r), Γ2) := by
  unfold dI; rw [h1, bind_val, h2, bind_val]; simp only; rw [h3, bind_val]
theorem k_sub : kSub i j = .val (i - j) := rfl
theorem k_and : kAnd i j = .val (Builtin.bitAnd i j) := rfl
theorem k_or : kOr i j = .val (Builtin.bitOr i j) := rfl
theorem k_mul (e : cMulX i j = true) : kMul i j = .val (i * j) := gq_of _ e
theorem k_div (e : cDiv i j = true) : kDiv i j = .val (i / j) := gq_of _ e
theorem k_mod (e : cMod i j = true) : kMod i j = .val (i % j) := gq_of _ e
theorem k_pow (e : cPow i j = true) : kPow i j = .val (i ^ j.toNat) := gq_of _ e
theorem k_shl (e : cShl i j = true) : kShl i j = .val (i * 2 ^ j.toNat) := gq_of _ e
theorem k_shr (e : cShr i j = true) : kShr i j = .val (i / 2 ^ j.toNat) := gq_of _ e
theorem e_add (h1 : f Γ = .val (.d fr (.int i), Γ1)) (h2 : g Γ1 = .val (.d fr2 (.int j), Γ2)) : dAdd f g Γ = .val (.d true (.int (i + j)), Γ2) := by
  unfold dAdd; rw [h1, bind_val, h2, bind_val]; rfl
theorem e_neg (h1 : f Γ = .val (.d fr (.int i), Γ1)) : dNeg f Γ = .val (.d true (.int (-i)), Γ1) := by
  unfold dNeg; rw [h1, bind_val]
theorem e_cmp {kk : List Sl → AV → AV → R Bool} (h1 : f Γ = .val (a, Γ1)) (h2 : g Γ1 = .val (b, Γ2)) (h3 : kk Γ2 a b = .val z) : dCmp kk f g Γ = .val (.d true (.bool z), Γ2) := by
  unfold dCmp boolR; rw [h1, bind_val, h2, bind_val, h3, bind_val]
theorem k_eqI : kEq Γ (.d fr (.int i)) (.d fr2 (.int j)) = .val (decide (i = j)) := by unfold kEq rdD; exact gq_of _ rfl
theorem k_neI : kNe Γ (.d fr (.int i)) (.d fr2 (.int j)) = .val (!decide (i = j)) := by unfold kNe; rw [k_eqI]; rfl
theorem k_eq {p q : PyData} (h1 : rdD Γ a = some p) (h2 : rdD Γ b = some q) (s1 : SeqAt.shaped p = true) (s2 : SeqAt.shaped q = true) (e : PyData.eqv p q = z) : kEq Γ a b = .val z := by
  unfold kEq; rw [h1, h2]; simp only [s1, s2, Bool.and_true]; rw [e]; rfl
theorem k_ne {p q : PyData} (h1 : rdD Γ a = some p) (h2 : rdD Γ b = some q) (s1 : SeqAt.shaped p = true) (s2 : SeqAt.shaped q = true) (e : PyData.eqv p q = z) : kNe Γ a b = .val (!z) := by
  unfold kNe; rw [k_eq h1 h2 s1 s2 e]; rfl
theorem k_I {r : Int → Int → Bool} : kI r Γ (.d fr (.int i)) (.d fr2 (.int j)) = .val (r i j) := rfl
theorem k_is {p : PyData} (h : rdD Γ a = some p) : kIs Γ a (.d fr .none) = .val (isN p) := by unfold kIs; rw [h]
theorem t_tst (h1 : f Γ = .val (.d fr (.bool z), Γ1)) : dTst f Γ = .val (z, Γ1) := by unfold dTst; rw [h1]; rfl
theorem t_not (h1 : t Γ = .val (z, Γ1)) : dTnot t Γ = .val (!z, Γ1) := by unfold dTnot; rw [h1]; rfl
theorem t_or (h1 : t Γ = .val (z, Γ1)) (h2 : z = false → t2 Γ1 = .val (z2, Γ1)) : dTor t t2 Γ = .val (z || z2, Γ1) := by
  unfold dTor; rw [h1, bind_val]
  cases z with
  | true => rfl
  | false =>
    show ((t2 Γ1).bind fun y => R.val y) = _
    rw [h2 rfl]; rfl
theorem t_and (h1 : t Γ = .val (z, Γ1)) (h2 : z = true → t2 Γ1 = .val (z2, Γ1)) : dTand t t2 Γ = .val (z && z2, Γ1) := by
  unfold dTand; rw [h1, bind_val]
  cases z with
  | false => rfl
  | true =>
    show ((t2 Γ1).bind fun y => R.val y) = _
    rw [h2 rfl]; rfl
theorem e_not (h1 : f Γ = .val (.d fr (.bool z), Γ1)) : dNot f Γ = .val (.d true (.bool (!z)), Γ1) := by unfold dNot; rw [h1]; rfl
theorem e_and (h1 : f Γ = .val (.d fr (.bool z), Γ1)) (h2 : z = true → g Γ1 = .val (.d fr2 (.bool z2), Γ1)) : dAnd f g Γ = .val (.d true (.bool (z && z2)), Γ1) := by
  unfold dAnd; rw [h1, bind_val]
  cases z with
  | false => rfl
  | true => show ((g Γ1).bind _) = _; rw [h2 rfl]; rfl
theorem e_or (h1 : f Γ = .val (.d fr (.bool z), Γ1)) (h2 : z = false → g Γ1 = .val (.d fr2 (.bool z2), Γ1)) : dOr f g Γ = .val (.d true (.bool (z || z2)), Γ1) := by
  unfold dOr; rw [h1, bind_val]
  cases z with
  | true => rfl
  | false => show ((g Γ1).bind _) = _; rw [h2 rfl]; rfl
theorem a_nil : dA0 Γ = .val ([], Γ) := rfl
theorem a_cons (h1 : f Γ = .val (a, Γ1)) (h2 : k Γ1 = .val (as, Γ2)) : dAc f k Γ = .val (a :: as, Γ2) := by unfold dAc; rw [h1, bind_val, h2]; rfl
theorem e_frz (h1 : f Γ = .val (.d true d, Γ1)) : dFrz f Γ = .val (.d true d, Γ1) := by unfold dFrz; rw [h1]; rfl
theorem e_frzF (h1 : f Γ = .val (.d false d, Γ1)) : dFrz f Γ = .val (.d (flat d) d, Γ1) := by unfold dFrz; rw [h1]; rfl
theorem e_frzD (h1 : f Γ = .val (.d fr d, Γ1)) : dFrz f Γ = .val (.d (fr || flat d) d, Γ1) := by
  cases fr with
  | true => exact e_frz h1
  | false => rw [Bool.false_or]; exact e_frzF h1
theorem n_lst (h1 : k Γ = .val (as, Γ1)) (h2 : allT as = some ds) (h3 : szB as = true) : dLst k Γ = .val (ds, Γ1) := by
  unfold dLst; rw [h1, bind_val]; simp only [h2]; exact gq_of _ h3
theorem e_tup (h1 : k Γ = .val (as, Γ1)) (h2 : allF as = some (ds, fr)) (h3 : szB as = true) : dTup k Γ = .val (.d fr (.tuple ds), Γ1) := by
  unfold dTup; rw [h1, bind_val]; simp only [h2]; exact gq_of _ h3
theorem e_ofN (h1 : n Γ = .val (ds, Γ1)) : dOfN n Γ = .val (.d true (.list ds), Γ1) := by unfold dOfN; rw [h1]; rfl
theorem c_l (h1 : n Γ = .val (ds, Γ1)) : nL n Γ = .val (.lst ds, Γ1) := by unfold nL; rw [h1]; rfl
theorem x_c {cl : Cl} (h1 : c Γ = .val (cl, Γ1)) : xC c Γ = .val (.c cl, Γ1) := by unfold xC; rw [h1]; rfl
theorem e_xd {x : DX} (h1 : x Γ = .val (.d d, Γ1)) : eX x Γ = .val (.d true d, Γ1) := by unfold eX; rw [h1]; rfl
theorem e_xc {x : DX} (h1 : x Γ = .val (.c (.lst ds), Γ1)) : eX x Γ = .val (.d true (.list ds), Γ1) := by unfold eX; rw [h1]; rfl
theorem e_ixL (h1 : f Γ = .val (.d fr (.list ds), Γ1)) (h2 : g Γ1 = .val (.d fr2 (.int i), Γ2)) (h3 : atI ds i = some d) : dIxB f g Γ = .val (.d fr d, Γ2) := by
  unfold dIxB; rw [h1, bind_val, h2, bind_val]; unfold ixB dicA ixA; simp only [h3]; rfl
theorem e_ixT (h1 : f Γ = .val (.d fr (.tuple ds), Γ1)) (h2 : g Γ1 = .val (.d fr2 (.int i), Γ2)) (h3 : atI ds i = some d) : dIxB f g Γ = .val (.d fr d, Γ2) := by
  unfold dIxB; rw [h1, bind_val, h2, bind_val]; unfold ixB dicA ixA; simp only [h3]; rfl
theorem e_ixS {m : Nat} (h1 : f Γ = .val (.s m, Γ1)) (h2 : g Γ1 = .val (.d fr2 (.int i), Γ2)) (h4 : rdD Γ2 (.s m) = some (.list ds)) (h3 : atI ds i = some d) : dIxB f g Γ = .val (.d true d, Γ2) := by
  unfold dIxB; rw [h1, bind_val, h2, bind_val]
  have e : dicA Γ2 (.s m) = none := by
    unfold rdD at h4
    unfold dicA
    simp only at h4 ⊢
    split at h4 <;> simp_all
  show (ixB Γ2 (.s m) (.d fr2 (.int i))).bind _ = _
  unfold ixB
  rw [e]
  simp only [ixA, h4, h3]
  rfl
theorem e_B {q : List Sl → List AV → R AV} (h1 : k Γ = .val (as, Γ1)) (h2 : q Γ1 as = .val a) : dB q k Γ = .val (a, Γ1) := by unfold dB; rw [h1, bind_val, h2]; rfl
theorem n_B {q : List Sl → List AV → R (List PyData)} (h1 : k Γ = .val (as, Γ1)) (h2 : q Γ1 as = .val ds) : dBN q k Γ = .val (ds, Γ1) := by unfold dBN; rw [h1, bind_val, h2]; rfl
theorem k_lenL (h : rdD Γ a = some (.list ds)) : kLen Γ [a] = .val (.d true (.int (ds.length : Nat))) := by unfold kLen; simp only [h]
theorem k_lenT (h : rdD Γ a = some (.tuple ds)) : kLen Γ [a] = .val (.d true (.int (ds.length : Nat))) := by unfold kLen; simp only [h]
theorem x_call {m : List Ar → R (Rs × List Sl)} {dds : List PyData} {r : Rs} {Z : List Sl} (h1 : k Γ = .val (as, Γ1)) (h2 : rdDs Γ1 none as = some ds) (h3 : m ((ds ++ dds).map Ar.d) = .val (r, Z)) : xCall m dds k Γ = .val (r, Γ1) := by
  unfold xCall; rw [h1, bind_val, h2, ofO_some, bind_val, h3]; rfl
theorem x_callC {m : List Ar → R (Rs × List Sl)} {dds : List PyData} {r : Rs} {Z : List Sl} {p q : Nat} {ic : Bool × Cl} {cl : Cl} (h1 : k Γ = .val (as, Γ1)) (h2 : pickC p as = some q) (h3 : cellAt Γ1 q = some ic) (h4 : rdDs Γ1 (some q) (as.eraseIdx p) = some ds) (h5 : ic.2.fl = true) (h6 : m (insC p ic.2 (ds ++ dds)) = .val (r, Z)) (h7 : ioAt p Z = some cl) :
    xCallC m p dds k Γ = .val (r, Γ1.set q (mkS ic.1 cl)) := by
  unfold xCallC; rw [h1, bind_val]; unfold preC; rw [h2, ofO_some, bind_val, h3, ofO_some, bind_val, h4, ofO_some, bind_val, h5]
  show ((m (insC p ic.2 (ds ++ dds))).atC p Γ1 q ic.1).bind _ = _
  rw [h6]
  show ((R.ofO (ioAt p Z)).bind _).bind _ = _
  rw [h7]
  rfl
theorem i_seqL (h1 : f Γ = .val (.d fr (.list ds), Γ1)) : iSeq f Γ = .val ((ds, fr), Γ1) := by unfold iSeq; rw [h1]; rfl
theorem i_seqT (h1 : f Γ = .val (.d fr (.tuple ds), Γ1)) : iSeq f Γ = .val ((ds, fr), Γ1) := by unfold iSeq; rw [h1]; rfl
theorem i_enumL (h1 : f Γ = .val (.d fr (.list ds), Γ1)) : iEnum f Γ = .val ((enumD ds, fr), Γ1) := by unfold iEnum; rw [h1]; rfl
theorem i_enumT (h1 : f Γ = .val (.d fr (.tuple ds), Γ1)) : iEnum f Γ = .val ((enumD ds, fr), Γ1) := by unfold iEnum; rw [h1]; rfl
theorem i_range1 (h1 : f Γ = .val (.d fr (.int j), Γ1)) (h2 : cRng 0 j = true) : iRange1 f Γ = .val (((rng 0 j).map PyData.int, true), Γ1) := by unfold iRange1; rw [h1, bind_val]; exact gq_of _ h2
theorem i_range2 (h1 : f Γ = .val (.d fr (.int i), Γ1)) (h3 : g Γ1 = .val (.d fr2 (.int j), Γ2)) (h2 : cRng i j = true) : iRange2 f g Γ = .val (((rng i j).map PyData.int, true), Γ2) := by unfold iRange2; rw [h1, bind_val, h3, bind_val]; exact gq_of _ h2
theorem n_lrng1 (h1 : f Γ = .val (.d fr (.int j), Γ1)) (h2 : cLrg 0 j = true) : dLrng1 f Γ = .val ((rng 0 j).map PyData.int, Γ1) := by unfold dLrng1; rw [h1, bind_val]; exact gq_of _ h2
theorem n_lrng2 (h1 : f Γ = .val (.d fr (.int i), Γ1)) (h3 : g Γ1 = .val (.d fr2 (.int j), Γ2)) (h2 : cLrg i j = true) : dLrng2 f g Γ = .val ((rng i j).map PyData.int, Γ2) := by unfold dLrng2; rw [h1, bind_val, h3, bind_val]; exact gq_of _ h2
theorem n_cat (h1 : f Γ = .val (a, Γ1)) (h2 : g Γ1 = .val (b, Γ2)) (h3 : lsA Γ2 a = some ds) (h4 : lsA Γ2 b = some es) (h5 : szB (ds ++ es) = true) : dCat f g Γ = .val (ds ++ es, Γ2) := by
  unfold dCat; rw [h1, bind_val, h2, bind_val, h3, ofO_some, bind_val, h4, ofO_some, bind_val]; exact gq_of _ h5
theorem e_isi {ts : List Tn} (h1 : f Γ = .val (a, Γ1)) (h2 : rdD Γ1 a = some d) (h3 : noDct d = true) : dIsi ts f Γ = .val (.d true (.bool (ts.any fun t => tyIs d t)), Γ1) := by
  unfold dIsi; rw [h1, bind_val]; simp only [h2]; exact gq_of _ h3
theorem e_app {m : Nat} {io : Bool} (h0 : cellL Γ m = some (io, es)) (h1 : f Γ = .val (.d true d, Γ1)) (h2 : cellL Γ1 m = some (io, ds)) (h3 : ltS ds = true) : dLm m qAppend (dAc (dFrz f) dA0) Γ = .val (.d true .none, Γ1.set m (mkS io (.lst (ds ++ [d])))) := by
  unfold dLm
  rw [h0, ofO_some, bind_val, a_cons (e_frz h1) a_nil, bind_val, h2, ofO_some, bind_val]
  show ((qAppend ds [.d true d]).bind _) = _
  unfold qAppend
  simp only [h3]
  rfl
end
def W (b : DS) (Γ : List Sl) (P : Fw → List Sl → Prop) : Prop := Ok (b Γ) fun z => P z.1 z.2
section
variable {Γ Γ1 Γ2 : List Sl} {f g : DF} {b r r2 : DS} {x : DX} {n : DC} {t : DT} {fr z : Bool} {d : PyData} {P : Fw → List Sl → Prop} {m : Nat}
theorem w_nil (h : P .nx Γ) : W bNil Γ P := ok_val h
theorem w_seq (h : W b Γ fun w Γ1 => match w with
    | .nx => W r Γ1 P
    | w => P w Γ1) : W (bSeq b r) Γ P := by
  unfold W bSeq
  refine ok_bind h fun z hz => ?_
  obtain ⟨w, Γ1⟩ := z
  cases w with
  | nx => exact hz
  | bk => exact ok_val hz
  | ct => exact ok_val hz
  | rt r => exact ok_val hz
theorem w_one (h : ∃ Γ1, b Γ = .val (.nx, Γ1) ∧ W r Γ1 P) : W (bSeq b r) Γ P := by
  obtain ⟨Γ1, e, h⟩ := h
  exact w_seq ⟨(.nx, Γ1), e, h⟩
theorem w_set (h1 : f Γ = .val (.d fr d, Γ1)) (h : W r (Γ1.set m (.dat fr d)) P) : W (bSeq (bSet m f) r) Γ P := w_one ⟨_, by unfold bSet; rw [h1]; rfl, h⟩
theorem w_setC {c : Cl} (h1 : n Γ = .val (c, Γ1)) (h : W r (Γ1.set m (.own c)) P) : W (bSeq (bSetC m n) r) Γ P := w_one ⟨_, by unfold bSetC; rw [h1]; rfl, h⟩
theorem w_setX {s : Rs} (h1 : x Γ = .val (s, Γ1)) (h : W r (Γ1.set m (rsS s)) P) : W (bSeq (bSetX m x) r) Γ P := w_one ⟨_, by unfold bSetX; rw [h1]; rfl, h⟩
theorem w_setG {gg : DG} (h1 : f Γ = .val (.d fr d, Γ1)) (h2 : gg fr d Γ1 = some Γ2) (h : W r Γ2 P) : W (bSeq (bSetG gg f) r) Γ P := w_one ⟨_, by unfold bSetG; rw [h1, bind_val]; simp only; rw [h2]; rfl, h⟩
theorem w_expr {a : AV} (h1 : f Γ = .val (a, Γ1)) (h : W r Γ1 P) : W (bSeq (bExpr f) r) Γ P := w_one ⟨_, by unfold bExpr; rw [h1]; rfl, h⟩
theorem w_exprX {s : Rs} {e : PyData} (h1 : x Γ = .val (s, Γ1)) (h2 : rsF s = some e) (h : W r Γ1 P) : W (bSeq (bExprX x) r) Γ P := w_one ⟨_, by unfold bExprX; rw [h1, bind_val, h2]; rfl, h⟩
theorem w_ret (h1 : f Γ = .val (.d true d, Γ1)) (h : P (.rt (.d d)) Γ1) : W (bSeq (bRet f) r) Γ P := w_seq ⟨(.rt (.d d), Γ1), by unfold bRet; rw [h1]; rfl, h⟩
theorem w_ret0 (h : P (.rt (.d .none)) Γ) : W (bSeq bRet0 r) Γ P := w_seq ⟨(.rt (.d .none), Γ), rfl, h⟩
theorem w_retC {c : Cl} (h1 : n Γ = .val (c, Γ1)) (h : P (.rt (.c c)) Γ1) : W (bSeq (bRetC n) r) Γ P := w_seq ⟨(.rt (.c c), Γ1), by unfold bRetC; rw [h1]; rfl, h⟩
theorem w_retX {s : Rs} (h1 : x Γ = .val (s, Γ1)) (h : P (.rt s) Γ1) : W (bSeq (bRetX x) r) Γ P := w_seq ⟨(.rt s, Γ1), by unfold bRetX; rw [h1]; rfl, h⟩
theorem w_retO {c : Cl} (h1 : Γ[m]? = some (.own c)) (h : P (.rt (.c c)) (Γ.set m .un)) : W (bSeq (bRetO m) r) Γ P := w_seq ⟨(.rt (.c c), Γ.set m .un), by unfold bRetO; rw [h1], h⟩
theorem w_if {c2 : DS} (h1 : t Γ = .val (z, Γ1)) (hT : z = true → W (bSeq b r) Γ1 P) (hF : z = false → W (bSeq c2 r) Γ1 P) : W (bSeq (bIf t b c2) r) Γ P := by
  have e : bSeq (bIf t b c2) r Γ = if z then bSeq b r Γ1 else bSeq c2 r Γ1 := by
    unfold bSeq bIf
    rw [h1, bind_val]
    cases z <;> rfl
  unfold W
  rw [e]
  cases z with
  | true => exact hT rfl
  | false => exact hF rfl
theorem w_seqA (h : W (bSeq b (bSeq r r2)) Γ P) : W (bSeq (bSeq b r) r2) Γ P := by
  have e : bSeq (bSeq b r) r2 Γ = bSeq b (bSeq r r2) Γ := by
    unfold bSeq
    rw [R.bind_assoc]
    congr 1
    funext z
    obtain ⟨w, Γ1⟩ := z
    cases w <;> rfl
  unfold W
  rw [e]
  exact h
theorem w_seqN (h : W r Γ P) : W (bSeq bNil r) Γ P := h
theorem w_frz {c : Cl} (h1 : Γ[m]? = some (.own c)) (h2 : frzC c = some d) (h : W r (Γ.set m (.dat true d)) P) : W (bFrz m r) Γ P := by
  unfold W bFrz
  simp only [h1, h2]
  exact h
theorem w_inc {i j : Int} {fr2 : Bool} (h0 : Γ[m]? = some (.dat fr (.int i))) (h1 : f Γ = .val (.d fr2 (.int j), Γ1)) (h : W r (Γ1.set m (.dat true (.int (i + j)))) P) : W (bSeq (bInc m f) r) Γ P := w_one ⟨_, by unfold bInc; rw [h0]; simp only [intS]; rw [ofO_some, bind_val, h1]; rfl, h⟩
theorem w_for {is : List Nat} {gg : DG} {it : DI} {y : List PyData × Bool} (Inv : Nat → List Sl → Prop) (h1 : it Γ = .val (y, Γ1)) (h0 : Inv 0 (wipeG Γ1 is))
    (hb : ∀ i d Γ, y.1[i]? = some d → Inv i Γ → ∃ Γ1, gg y.2 d Γ = some Γ1 ∧ W b Γ1 fun w Γ2 => match w with
      | .nx => Inv (i + 1) (wipeG Γ2 is)
      | .ct => Inv (i + 1) (wipeG Γ2 is)
      | .bk => W r (wipeG Γ2 is) P
      | .rt s => P (.rt s) Γ2) (hd : ∀ Γ, Inv y.1.length Γ → W r Γ P) : W (bSeq (bFor is gg it b) r) Γ P := by
  refine w_seq ?_
  unfold W bFor
  rw [h1, bind_val]
  exact ok_loopU (Post := fun z => match z.1 with
    | .nx => W r z.2 P
    | w => P w z.2) Inv y.1 h0 (fun i d Γ hd hi => by
      obtain ⟨Γ1, e1, o⟩ := hb i d Γ hd hi
      exact ⟨Γ1, e1, o.mono fun z hz => by
        obtain ⟨w, Γ2⟩ := z
        cases w <;> exact hz⟩) hd
theorem w_while {is : List Nat} {fl : List Sl → Nat} (Inv : Nat → List Sl → Prop) (k : Nat) (hk : k < fl Γ) (h0 : Inv k (wipeG Γ is))
    (hb : ∀ n Γ, Inv n Γ → ∃ z Γ1, t Γ = .val (z, Γ1) ∧ (z = true → W b Γ1 fun w Γ2 => match w with
      | .nx => ∃ m, m < n ∧ Inv m (wipeG Γ2 is)
      | .ct => ∃ m, m < n ∧ Inv m (wipeG Γ2 is)
      | .bk => W r (wipeG Γ2 is) P
      | .rt s => P (.rt s) Γ2) ∧ (z = false → W r Γ1 P)) : W (bSeq (bWhile is fl t b) r) Γ P := by
  refine w_seq ?_
  unfold W bWhile
  refine ok_loopW (Post := fun z => match z.1 with
    | .nx => W r z.2 P
    | w => P w z.2) Inv (fun n Γ hi => ?_) (fl Γ) k Γ hk h0
  obtain ⟨z, Γ1, e, hT, hF⟩ := hb n Γ hi
  refine ⟨(z, Γ1), e, ?_⟩
  cases z with
  | true =>
    show Ok _ _
    exact (hT rfl).mono fun y hy => by
      obtain ⟨w, Γ2⟩ := y
      cases w <;> exact hy
  | false => exact hF rfl
end
theorem ok_run {n np : Nat} {b : DS} {as : List Ar} {Q : Rs × List Sl → Prop} (hl : as.length = np) (h : W b (initS n as) fun w Γ => ∃ r Z, fwR w = some r ∧ cellsAt as Γ = some Z ∧ Q (r, Z)) : Ok (runB n np b as) Q := by
  unfold runB
  have : (as.length == np) = true := by rw [hl]; exact beq_self_eq_true _
  rw [this, req_true, bind_val]
  obtain ⟨z, e, r, Z, h1, h2, h3⟩ := h
  rw [e]
  show Ok ((R.ofO (fwR z.1)).bind _) Q
  rw [h1, ofO_some, bind_val, h2]
  exact ok_val h3
local macro_rules
  | `(tactic| bv_omega) => `(tactic| with_reducible first
  | exact e_C | exact a_nil | exact k_sub | exact k_and | exact k_or | exact k_eqI | exact k_neI | exact k_I
  | apply e_I | apply e_add | apply e_neg | apply e_cmp | apply t_tst | apply t_not | apply e_not
  | apply k_mul | apply k_div | apply k_mod | apply k_pow | apply k_shl | apply k_shr
  | apply a_cons | apply n_lst | apply e_tup | apply e_ofN | apply c_l | apply x_c | apply e_B | apply n_B | apply e_isi)
local macro_rules
  | `(tactic| symm_saturate) => `(tactic| repeat' first | bv_omega | exact e_var rfl | exact e_varO rfl | exact e_varI rfl | rfl | assumption)
end PD
section
open PySem L2 PD
local macro_rules
  | `(tactic| bv_omega) => `(tactic| with_reducible first
  | exact e_C | exact a_nil | exact k_sub | exact k_and | exact k_or | exact k_eqI | exact k_neI | exact k_I
  | apply e_I | apply e_add | apply e_neg | apply e_cmp | apply t_tst | apply t_not | apply e_not
  | apply k_mul | apply k_div | apply k_mod | apply k_pow | apply k_shl | apply k_shr
  | apply a_cons | apply n_lst | apply e_tup | apply e_ofN | apply c_l | apply x_c | apply e_B | apply n_B | apply e_isi)
local macro_rules
  | `(tactic| symm_saturate) => `(tactic| repeat' first | bv_omega | exact e_var rfl | exact e_varO rfl | exact e_varI rfl | rfl | assumption)
set_option linter.all false
set_option maxRecDepth 100000
set_option autoImplicit false
namespace PD
open PySem L2
section
variable {Γ Γ1 Γ2 : List Sl} {fe : DF} {r : DS} {m : Nat} {io fr : Bool} {f : Fd} {n : Int} {P : Fw → List Sl → Prop}
theorem e_fdT (h : cellF Γ m = some (io, f)) : dFdT m Γ = .val (.d true (.int f.2.1), Γ) := by unfold dFdT; rw [h]; rfl
theorem e_fdS (h : cellF Γ m = some (io, f)) : dFdS m Γ = .val (.d true (.int f.2.2), Γ) := by unfold dFdS; rw [h]; rfl
theorem e_fdN (h : cellF Γ m = some (io, f)) : dFdN m Γ = .val (.d true (.bool (!decide (f.1 = ([] : List Int)))), Γ) := by unfold dFdN; rw [h]; rfl
theorem e_fd0 (h : cellF Γ m = some (io, f)) (h2 : atI f.1 0 = some n) : dFd0 m Γ = .val (.d true (.int n), Γ) := by unfold dFd0; rw [h, ofO_some, bind_val, h2]; rfl
theorem w_fdT (h1 : fe Γ = .val (.d fr (.int n), Γ1)) (h2 : cellF Γ1 m = some (io, f)) (h : W r (Γ1.set m (mkS io (.feed (f.1, n, f.2.2)))) P) : W (bSeq (bFdT m fe) r) Γ P := w_one ⟨_, by unfold bFdT; rw [h1, bind_val]; show ((R.ofO (some n)).bind _) = _; rw [ofO_some, bind_val, h2]; rfl, h⟩
theorem w_fdS (h1 : fe Γ = .val (.d fr (.int n), Γ1)) (h2 : cellF Γ1 m = some (io, f)) (h : W r (Γ1.set m (mkS io (.feed (f.1, f.2.1, n)))) P) : W (bSeq (bFdS m fe) r) Γ P := w_one ⟨_, by unfold bFdS; rw [h1, bind_val]; show ((R.ofO (some n)).bind _) = _; rw [ofO_some, bind_val, h2]; rfl, h⟩
theorem w_fd0 (h1 : fe Γ = .val (.d fr (.int n), Γ1)) (h2 : cellF Γ1 m = some (io, f)) (h3 : f.1 ≠ []) (h : W r (Γ1.set m (mkS io (.feed (f.1.set 0 n, f.2)))) P) : W (bSeq (bFd0 m fe) r) Γ P := w_one ⟨_, by
  unfold bFd0; rw [h1, bind_val]; show ((R.ofO (some n)).bind _) = _; rw [ofO_some, bind_val, h2, ofO_some, bind_val]
  have : (!decide ((io, f).2.1 = ([] : List Int))) = true := by simpa using h3
  rw [this]; rfl, h⟩
theorem w_fdC (h2 : cellF Γ m = some (io, f)) (h : W r (Γ.set m (mkS io (.feed (f.1.drop 1, f.2)))) P) : W (bSeq (bFdC m) r) Γ P := w_one ⟨_, by unfold bFdC; rw [h2]; rfl, h⟩
end
theorem mod_64 {a M : Int} (h : 0 < M) (h2 : M < 2 ^ 64) : (a % M).natAbs < 2 ^ 64 := by
  have h3 := Int.emod_nonneg a (by omega : M ≠ 0)
  have h4 := Int.emod_lt_of_pos a h
  omega
theorem mulR {i j : Int} (h : j.natAbs < 2 ^ 64) : cMulX i j = true := by unfold cMulX; rw [decide_eq_true h]; simp
theorem mulL {i j : Int} (h : i.natAbs < 2 ^ 64) : cMulX i j = true := by unfold cMulX; rw [decide_eq_true h]; simp
theorem modP {i j : Int} (h : 0 < j) : cMod i j = true := decide_eq_true h
theorem log2_lt {n : Nat} (h : n < 2 ^ 64) : n.log2 < 9000 := by
  by_cases h0 : n = 0
  · subst h0; decide
  · have := (Nat.log2_lt h0 (k := 64)).mpr h
    omega
theorem divP {i j : Int} (h : 0 < j) (h2 : j < 2 ^ 64) : cDiv i j = true := by
  unfold cDiv
  rw [Bool.and_eq_true]
  exact ⟨decide_eq_true h, decide_eq_true (log2_lt (by omega))⟩
def feedTake : DS := (bSeq (bFdT 0 (dAdd (dFdT 0) (dC (.int 1)))) (bSeq (bIf (dTst (dFdN 0)) (bSeq (bSet 2 (dFrz (dFd0 0))) (bSeq (bIf (dTst (dCmp (kI fun i j => decide (j ≤ i)) (dVar 2) (dI kPow (dC (.int 10)) (dC (.int 18))))) (bSeq (bFd0 0 (dI kDiv (dVar 2) (dVar 1))) (bSeq (bRet (dI kMod (dVar 2) (dVar 1))) bNil)) bNil) (bSeq (bFdS 0 (dI kMod (dAdd (dAdd (dI kMul (dFdS 0) (dC (.int 30011))) (dI kMod (dVar 2) (dC (.int 999999937)))) (dC (.int 7))) (dC (.int 1000000007)))) (bSeq (bFdC 0) bNil)))) bNil) (bSeq (bSet 3 (dI kMod (dI kMul (dAdd (dAdd (dFdS 0) (dI kMul (dC (.int 40503)) (dFdT 0))) (dC (.int 9973))) (dC (.int 69069))) (dC (.int 2147483647)))) (bSeq (bSet 3 (dI kMod (dAdd (dAdd (dI kMul (dVar 3) (dVar 3)) (dI kMul (dC (.int 30269)) (dVar 3))) (dFdT 0)) (dC (.int 2147483629)))) (bSeq (bRet (dI kMod (dI kDiv (dVar 3) (dC (.int 64))) (dVar 1))) bNil)))))
theorem take_end (f : Fd) (n : Int) (hm : 0 < n) (s2 : Sl) (P : Fw → List Sl → Prop) (hP : ∀ r s3 s4, 0 ≤ r → r < n → P (.rt (.d (.int r))) [.io (.feed f), .dat true (.int n), s3, s4]) :
    W (bSeq (bSet 3 (dI kMod (dI kMul (dAdd (dAdd (dFdS 0) (dI kMul (dC (.int 40503)) (dFdT 0))) (dC (.int 9973))) (dC (.int 69069))) (dC (.int 2147483647)))) (bSeq (bSet 3 (dI kMod (dAdd (dAdd (dI kMul (dVar 3) (dVar 3)) (dI kMul (dC (.int 30269)) (dVar 3))) (dFdT 0)) (dC (.int 2147483629)))) (bSeq (bRet (dI kMod (dI kDiv (dVar 3) (dC (.int 64))) (dVar 1))) bNil))) [.io (.feed f), .dat true (.int n), s2, .un] P := by
  apply w_set
  · repeat' first | bv_omega | exact e_fdS rfl | exact e_fdT rfl | exact mulR (by decide) | exact mulL (by decide) | exact modP (by decide)
  apply w_set
  · repeat' first | bv_omega | exact e_fdT rfl | exact e_var rfl | exact mulL (by decide) | exact mulL (mod_64 (by decide) (by decide)) | exact modP (by decide)
  apply w_ret
  · repeat' first | bv_omega | exact e_var rfl | exact divP (by decide) (by decide) | exact modP hm
  exact hP _ _ _ (Int.emod_nonneg _ (by omega)) (Int.emod_lt_of_pos _ hm)
theorem feedTake_ok (f : Fd) (n : Int) (hm : 0 < n) (hn : n < 2 ^ 64) : Ok (runB 4 2 feedTake [.c (.feed f), .d (.int n)]) fun z => ∃ r f', z = (.d (.int r), [.io (.feed f'), .un]) ∧ 0 ≤ r ∧ r < n := by
  refine ok_run rfl ?_
  unfold feedTake
  apply w_fdT
  · repeat' first | bv_omega | exact e_fdT rfl
  · rfl
  apply w_if
  · repeat' first | bv_omega | exact e_fdN rfl
  · intro hz
    have hne : f.1 ≠ [] := by simpa using hz
    obtain ⟨x, xs, hx⟩ : ∃ x xs, f.1 = x :: xs := by
      cases h : f.1 with
      | nil => exact absurd h hne
      | cons a b => exact ⟨a, b, rfl⟩
    apply w_seqA
    apply w_set
    · apply e_frz
      apply e_fd0 rfl
      show atI f.1 0 = some x
      rw [hx]; exact atI_nat (j := 0) rfl
    apply w_seqA
    apply w_if
    · repeat' first | bv_omega | exact e_var rfl | exact rfl
    · intro _
      apply w_seqA
      apply w_fd0
      · repeat' first | bv_omega | exact e_var rfl | exact divP hm hn
      · rfl
      · exact hne
      apply w_seqA
      apply w_ret
      · repeat' first | bv_omega | exact e_var rfl | exact modP hm
      exact ⟨_, _, rfl, rfl, _, _, rfl, Int.emod_nonneg _ (by omega), Int.emod_lt_of_pos _ hm⟩
    · intro _
      apply w_seqN
      apply w_seqA
      apply w_fdS
      · repeat' first | bv_omega | exact e_var rfl | exact e_fdS rfl | exact mulR (by decide) | exact modP (by decide)
      · rfl
      apply w_seqA
      apply w_fdC
      · rfl
      apply w_seqN
      exact take_end _ n hm _ _ fun r s3 s4 h1 h2 => ⟨_, _, rfl, rfl, r, _, rfl, h1, h2⟩
  · intro _
    apply w_seqN
    exact take_end _ n hm _ _ fun r s3 s4 h1 h2 => ⟨_, _, rfl, rfl, r, _, rfl, h1, h2⟩
end PD
set_option linter.all false
set_option maxRecDepth 100000
set_option autoImplicit false
namespace PD
open PySem L2
abbrev dL (ns : List Int) : PyData := .list (ns.map PyData.int)
abbrev dT (ns : List Int) : PyData := .tuple (ns.map PyData.int)
abbrev dLL (rs : List (List Int)) : PyData := .list (rs.map fun r => dL r)
abbrev dTT (rs : List (List Int)) : PyData := .tuple (rs.map fun r => dT r)
theorem flat_int (i : Int) : flat (.int i) = true := rfl
theorem gmap {α β : Type} {f : α → β} {xs : List α} {i : Nat} {d : β} (h : (xs.map f)[i]? = some d) : ∃ x, xs[i]? = some x ∧ d = f x := by
  rw [List.getElem?_map] at h
  cases hx : xs[i]? with
  | none => rw [hx] at h; cases h
  | some x => rw [hx] at h; cases h; exact ⟨x, rfl, rfl⟩
theorem mem_at {α : Type} {xs : List α} {i : Nat} {x : α} (h : xs[i]? = some x) : x ∈ xs := List.mem_of_getElem? h
theorem e_lsetS {Γ Γ1 : List Sl} {f : DF} {a : AV} {ns : List Int} {b0 : Bool} (h1 : f Γ = .val (a, Γ1)) (h2 : rdSeq Γ1 a = some (ns.map PyData.int, b0)) (h4 : intsOf (ns.map PyData.int) = some ns) (h3 : ns.length < 4000) : dLset f Γ = .val (.d true (.int ((setI ns).length : Nat)), Γ1) := by
  unfold dLset; rw [h1, bind_val]; unfold kLsetN; rw [h2]; simp only [h4]; rw [ofO_some, bind_val, gq_of _ (decide_eq_true h3)]; rfl
theorem e_lset {Γ Γ1 : List Sl} {f : DF} {a : AV} {ns : List Int} (h1 : f Γ = .val (a, Γ1)) (h2 : rdInts Γ1 a = some ns) (h3 : ndI ns = true) : dLset f Γ = .val (.d true (.int (ns.length : Nat)), Γ1) := by
  unfold ndI lt64 at h3
  rw [Bool.and_eq_true] at h3
  have hl := of_decide_eq_true h3.1
  have hn := of_decide_eq_true h3.2
  have hs : (setI ns).length = ns.length := by
    have nd2 : (setI ns).Nodup := (setI_rise ns).imp fun h => by omega
    exact ((List.perm_ext_iff_of_nodup nd2 hn).mpr fun k => setI_mem).length_eq
  have key : ∃ b0, rdSeq Γ1 a = some (ns.map PyData.int, b0) := by
    unfold rdInts at h2
    cases a with
    | d fr d =>
      unfold rdD at h2
      split at h2
      · rename_i ds hd
        cases hd
        rw [intsOf_eq h2]
        exact ⟨fr, rfl⟩
      · exact absurd h2 (by simp)
    | s j =>
      unfold rdSeq
      split at h2
      · rename_i ds hd
        simp only [hd]
        rw [intsOf_eq h2]
        exact ⟨true, rfl⟩
      · exact absurd h2 (by simp)
  obtain ⟨b0, hk⟩ := key
  have h4 : intsOf (ns.map PyData.int) = some ns := by
    clear hk hs h2 h1 h3 hl hn
    induction ns with
    | nil => rfl
    | cons n r ih => rw [List.map_cons]; unfold intsOf; rw [ih]; rfl
  rw [← hs]
  exact e_lsetS h1 hk h4 (by omega)
theorem k_sorted {Γ : List Sl} {a : AV} {ns : List Int} (h : rdInts Γ a = some ns) : kSorted Γ [a] = .val ((sortI ns).map PyData.int) := by unfold kSorted; simp only [h]; rfl
theorem k_tup {Γ : List Sl} {a : AV} {ds : List PyData} {fr : Bool} (h : rdSeq Γ a = some (ds, fr)) : kTuple Γ [a] = .val (.d fr (.tuple ds)) := by unfold kTuple; simp only [h]; rfl
theorem k_list {Γ : List Sl} {a : AV} {ds : List PyData} {fr : Bool} (h : rdSeq Γ a = some (ds, fr)) (h2 : (fr || flat.flatA ds) = true) : kList Γ [a] = .val ds := by unfold kList; simp only [h]; exact gq_of _ h2
theorem ltS_of {α : Type} {xs : List α} (h : xs.length < 2 ^ 20) : ltS xs = true := by
  unfold ltS
  apply decide_eq_true
  have : (2 : Nat) ^ 20 ≤ sizeLine := by decide
  omega
theorem szB_of {α : Type} {xs : List α} (h : xs.length < 2 ^ 20) : szB xs = true := by
  unfold szB
  apply decide_eq_true
  have : (2 : Nat) ^ 20 ≤ sizeLine := by decide
  omega
def bAreElders : DS := (bSeq (bFor [2] (gN 2) (iSeq (dVar 0)) (bSeq (bIf (dTor (dTst (dCmp (kI fun i j => decide (i < j)) (dVar 2) (dC (.int 0)))) (dTst (dCmp (kI fun i j => decide (j ≤ i)) (dVar 2) (dVar 1)))) (bSeq (bRet (dC (.bool false))) bNil) bNil) bNil)) (bSeq (bRet (dCmp kEq (dLset (dVar 0)) (dB kLen (dAc (dVar 0) dA0)))) bNil))
theorem areElders_u (ns : List Int) (m : Int) (h : ∀ e ∈ ns, 0 ≤ e ∧ e < m) (hn : ns.Nodup) (hl : ns.length < 64) : runB 3 2 bAreElders [.d (dL ns), .d (.int m)] = .val (.d (.bool true), [.un, .un]) := by
  refine ok_eq (ok_run rfl ?_)
  unfold bAreElders
  refine w_for (y := (ns.map PyData.int, false)) (Γ1 := [.dat false (dL ns), .dat true (.int m), .un]) (fun _ Γ => Γ = [.dat false (dL ns), .dat true (.int m), .un]) ?_ rfl ?_ ?_
  · exact i_seqL (e_var rfl)
  · rintro i d Γ hd rfl
    obtain ⟨x, hx, rfl⟩ := gmap hd
    obtain ⟨q1, q2⟩ := h x (mem_at hx)
    refine ⟨_, rfl, ?_⟩
    apply w_if
    · apply t_or
      · symm_saturate
      · intro _
        symm_saturate
    · intro hz
      simp only [Bool.or_eq_true, decide_eq_true_eq] at hz
      omega
    · intro _
      exact w_nil rfl
  · rintro Γ rfl
    have hnd : ndI ns = true := by unfold ndI lt64; rw [decide_eq_true hl, decide_eq_true hn]; rfl
    apply w_ret
    · apply e_cmp
      · exact e_lset (e_var rfl) (intsOf_map ns) hnd
      · apply e_B
        · symm_saturate
        · exact k_lenL rfl
      · exact k_eqI
    refine ⟨_, _, rfl, rfl, ?_⟩
    rw [List.length_map, decide_eq_true rfl]
def uAreElders : List Ar → R (Rs × List Sl) := runB 3 2 bAreElders
def bNetOf : DS := (bSeq (bIf (dTor (dTst (dCmp (kI fun i j => decide (i < j)) (dB kLen (dAc (dVar 0) dA0)) (dC (.int 1)))) (dTst (dCmp (kI fun i j => decide (j < i)) (dB kLen (dAc (dVar 0) dA0)) (dC (.int 40))))) (bSeq (bRaise "NoNet" ["make"] (dAc (dNeg (dC (.int 1))) dA0)) bNil) bNil) (bSeq (bSetX 1 (xC (nL (dLst dA0)))) (bSeq (bFor [2, 3] (gT2 (gN 2) (gN 3)) (iEnum (dVar 0)) (bSeq (bIf (dTnot (dTst (eX (xCall uAreElders [] (dAc (dVar 3) (dAc (dVar 2) dA0)))))) (bSeq (bRaise "NoNet" ["make"] (dAc (dFrz (dVar 2)) dA0)) bNil) bNil) (bSeq (bExpr (dLm 1 qAppend (dAc (dFrz (dB kTuple (dAc (dOfN (dBN kSorted (dAc (dVar 3) dA0))) dA0))) dA0))) bNil))) (bSeq (bRet (dB kTuple (dAc (dVar 1) dA0))) bNil))))
def RowsOk (rows : List (List Int)) : Prop := ∀ (k : Nat) (r : List Int), rows[k]? = some r → (∀ e ∈ r, 0 ≤ e ∧ e < (k : Int)) ∧ r.Nodup ∧ r.length < 64
def netR (rows : List (List Int)) : List (List Int) := rows.map sortI
theorem enumD_at {ds : List PyData} {i : Nat} {d : PyData} (h : (enumD ds)[i]? = some d) : ∃ x, ds[i]? = some x ∧ d = .tuple [.int (i : Nat), x] := by
  unfold enumD at h
  rw [List.getElem?_mapIdx] at h
  cases hx : ds[i]? with
  | none => rw [hx] at h; cases h
  | some x => rw [hx] at h; cases h; exact ⟨x, rfl, rfl⟩
theorem enumD_len (ds : List PyData) : (enumD ds).length = ds.length := by unfold enumD; simp
theorem take_step {α : Type} {xs : List α} {i : Nat} {x : α} (h : xs[i]? = some x) : xs.take (i + 1) = xs.take i ++ [x] := by
  rw [List.take_add_one, h]; rfl
theorem netOf_u (rows : List (List Int)) (h : RowsOk rows) (h1 : 1 ≤ rows.length) (h2 : rows.length ≤ 40) : runB 4 1 bNetOf [.d (dLL rows)] = .val (.d (dTT (netR rows)), [.un]) := by
  refine ok_eq (ok_run rfl ?_)
  unfold bNetOf
  apply w_if
  · apply t_or
    · apply t_tst
      apply e_cmp
      · apply e_B
        · symm_saturate
        · exact k_lenL rfl
      · exact e_C
      · exact k_I
    · intro _
      apply t_tst
      apply e_cmp
      · apply e_B
        · symm_saturate
        · exact k_lenL rfl
      · exact e_C
      · exact k_I
  · intro hz
    simp only [Bool.or_eq_true, decide_eq_true_eq, List.length_map] at hz
    omega
  intro _
  apply w_seqN
  apply w_setX
  · exact x_c (c_l (n_lst a_nil rfl rfl))
  refine w_for (y := (enumD (rows.map fun r => dL r), false)) (Γ1 := [.dat false (dLL rows), .own (.lst []), .un, .un]) (fun i Γ => Γ = [.dat false (dLL rows), .own (.lst (((netR rows).take i).map dT)), .un, .un]) ?_ rfl ?_ ?_
  · exact i_enumL (e_var rfl)
  · rintro i d Γ hd rfl
    obtain ⟨x, hx, rfl⟩ := enumD_at hd
    obtain ⟨r, hr, rfl⟩ := gmap hx
    obtain ⟨q1, q2, q3⟩ := h i r hr
    refine ⟨_, rfl, ?_⟩
    apply w_if
    · apply t_not
      apply t_tst
      apply e_xd
      apply x_call
      · symm_saturate
      · rfl
      · exact areElders_u r (i : Int) q1 q2 q3
    · intro hz; cases hz
    intro _
    apply w_seqN
    apply w_expr
    · apply e_app
      · rfl
      · apply e_B
        · apply a_cons
          · apply e_ofN
            apply n_B
            · symm_saturate
            · exact k_sorted (intsOf_map r)
          · exact a_nil
        · exact k_tup rfl
      · rfl
      · apply ltS_of
        rw [List.length_map, List.length_take]
        unfold netR
        rw [List.length_map]
        omega
    refine w_nil ?_
    have e : (netR rows)[i]? = some (sortI r) := by unfold netR; rw [List.getElem?_map, hr]; rfl
    show _ = _
    rw [take_step e, List.map_append]
    rfl
  · rintro Γ hΓ
    have hl : (enumD (rows.map fun r => dL r)).length = (netR rows).length := by rw [enumD_len]; unfold netR; simp
    have hΓ : Γ = [.dat false (dLL rows), .own (.lst ((netR rows).map dT)), .un, .un] := by
      rw [hΓ]
      show [Sl.dat false (dLL rows), .own (.lst (((netR rows).take (enumD (rows.map fun r => dL r)).length).map dT)), .un, .un] = _
      rw [hl, List.take_length]
    subst hΓ
    apply w_ret
    · apply e_B
      · symm_saturate
      · exact k_tup rfl
    exact ⟨_, _, rfl, rfl, rfl⟩
end PD
set_option linter.all false
set_option maxRecDepth 100000
set_option autoImplicit false
namespace PD
open PySem L2
structure Msk (k : Nat) (m : Int) (S : Nat → Prop) : Prop where
  nn : 0 ≤ m
  lt : m.toNat < 2 ^ k
  bit : ∀ j, m.toNat.testBit j = true ↔ S j
def Rise (xs : List Int) (S : Nat → Prop) : Prop := xs.Pairwise (· < ·) ∧ ∀ y : Int, y ∈ xs ↔ ∃ j : Nat, S j ∧ y = j
theorem Rise.ext {xs ys : List Int} {S : Nat → Prop} (h : Rise xs S) (h' : Rise ys S) : xs = ys := rise_ext h.1 h'.1 fun k => (h.2 k).trans (h'.2 k).symm
theorem Rise.nil {xs : List Int} {S : Nat → Prop} (h : Rise xs S) : xs = [] ↔ ∀ j, ¬ S j := by
  constructor
  · rintro rfl j hj
    exact absurd ((h.2 j).mpr ⟨j, hj, rfl⟩) (by simp)
  · intro z
    cases hx : xs with
    | nil => rfl
    | cons y ys =>
      obtain ⟨j, h1, _⟩ := (h.2 y).mp (by rw [hx]; simp)
      exact absurd h1 (z j)
def NetOk (net : List (List Int)) : Prop := ∀ (k : Nat) (row : List Int), net[k]? = some row → (∀ e ∈ row, 0 ≤ e ∧ e < (k : Int)) ∧ row.Pairwise (· < ·)
inductive Anc (net : List (List Int)) : Nat → Nat → Prop
  | rf (i : Nat) : Anc net i i
  | st {i k j : Nat} {row : List Int} : net[i]? = some row → ((k : Nat) : Int) ∈ row → Anc net k j → Anc net i j
def RowOk (n : Nat) (row : List Bool) (S : Nat → Prop) : Prop := row.length = n ∧ ∀ (j : Nat) (b : Bool), row[j]? = some b → (b = true ↔ S j)
theorem RowOk.at {n : Nat} {row : List Bool} {S : Nat → Prop} (h : RowOk n row S) {j : Nat} (hj : j < n) : ∃ b, row[j]? = some b ∧ (b = true ↔ S j) := by
  have : j < row.length := by rw [h.1]; exact hj
  exact ⟨row[j], List.getElem?_eq_getElem this, h.2 j _ (List.getElem?_eq_getElem this)⟩
theorem any_int (x : Int) (xs : List Int) : ((xs.map PyData.int).any fun z => PyData.eqv z (.int x)) = decide (x ∈ xs) := by
  induction xs with
  | nil => simp
  | cons y ys ih =>
    rw [List.map_cons, List.any_cons, ih, eqt_int.eq]
    by_cases h : y = x
    · simp [h]
    · have h2 : ¬ x = y := fun e => h e.symm
      simp [h, h2]
def bBitsOf : DS := (bSeq (bSetX 1 (xC (nL (dLst dA0)))) (bSeq (bFor [2, 3, 4, 5] (gT2 (gN 2) (gN 3)) (iEnum (dVar 0)) (bSeq (bSet 4 (dI kShl (dC (.int 1)) (dVar 2))) (bSeq (bFor [5] (gN 5) (iSeq (dVar 3)) (bSeq (bSet 4 (dI kOr (dVar 4) (dIxB (dVar 1) (dVar 5)))) bNil)) (bSeq (bExpr (dLm 1 qAppend (dAc (dFrz (dVar 4)) dA0))) bNil)))) (bSeq (bRetO 1) bNil)))
end PD
set_option linter.all false
set_option maxRecDepth 100000
set_option autoImplicit false
namespace PD
open PySem L2
theorem n_comp {α : Type} {enc : α → PyData} (xs : List α) (p : α → Bool) (v : α → PyData) {vs : List Nat} {g : DG} {it : DI} {t : DT} {e : DF} {Γ Γ1 Γ0 : List Sl} {fr : Bool} (h1 : it Γ = .val ((xs.map enc, fr), Γ1)) (hs : xs.length < 2 ^ 20) (h0 : wipeG Γ1 vs = Γ0)
    (hb : ∀ x ∈ xs, ∃ Γ2, g fr (enc x) Γ0 = some Γ2 ∧ wipeG Γ2 vs = Γ0 ∧ t Γ2 = .val (p x, Γ2) ∧ (p x = true → e Γ2 = .val (.d true (v x), Γ2))) : nComp vs g it t e Γ = .val ((xs.filter p).map v, Γ0) := by
  unfold nComp
  rw [h1, bind_val]
  have : szB (xs.map enc) = true := szB_of (by rw [List.length_map]; exact hs)
  show (R.req (szB (xs.map enc))).bind _ = _
  rw [this, req_true, bind_val]
  refine ok_eq (ok_compU (fun i out Γ => Γ = Γ0 ∧ out = ((xs.take i).filter p).map v) (xs.map enc) ⟨h0, by simp⟩ (fun i d out Γ hd hI => ?_) fun out Γ hI => ?_)
  · obtain ⟨rfl, rfl⟩ := hI
    obtain ⟨x, hx, rfl⟩ := gmap hd
    obtain ⟨Γ2, q1, q2, q3, q4⟩ := hb x (mem_at hx)
    refine ⟨Γ2, q1, ok_of q3 ?_⟩
    show if p x = true then _ else _
    by_cases hp : p x = true
    · rw [if_pos hp]
      refine ok_of (q4 hp) ⟨v x, rfl, q2, ?_⟩
      rw [take_step hx, List.filter_append, List.map_append]
      simp [hp]
    · rw [if_neg hp]
      refine ⟨q2, ?_⟩
      rw [take_step hx, List.filter_append, List.map_append]
      simp [hp]
  · obtain ⟨rfl, rfl⟩ := hI
    show (_, _) = (_, _)
    rw [List.length_map, List.take_length]
def optI : Option Int → PyData
  | none => .none
  | some i => .int i
def BestAt (L : Nat → Int) (barred : List Int) (n : Nat) (best : Option Int) (most : Int) : Prop := match best with
  | none => most = 0 ∧ ∀ k : Nat, k < n → ((k : Nat) : Int) ∉ barred → L k ≤ 0
  | some m => ∃ j : Nat, m = j ∧ j < n ∧ ((j : Nat) : Int) ∉ barred ∧ most = L j ∧ 0 < L j ∧ (∀ k : Nat, k < n → ((k : Nat) : Int) ∉ barred → L k ≤ L j) ∧ ∀ k : Nat, k < j → ((k : Nat) : Int) ∉ barred → L k < L j
theorem BestAt.nn {L : Nat → Int} {barred : List Int} {n : Nat} {best : Option Int} {most : Int} (h : BestAt L barred n best most) : 0 ≤ most := by
  cases best with
  | none => have := h.1; omega
  | some m => obtain ⟨j, _, _, _, h1, h2, _⟩ := h; omega
theorem rng_at {j : Int} {i : Nat} {x : Int} (h : (rng 0 j)[i]? = some x) : x = (i : Nat) ∧ (i : Int) < j := by
  unfold rng at h
  obtain ⟨k, hk, rfl⟩ := gmap h
  rw [List.getElem?_range (by
    have := (List.getElem?_eq_some_iff.mp hk).1
    simpa using this)] at hk
  cases hk
  have := (List.getElem?_eq_some_iff.mp h).1
  simp at this
  omega
theorem rng_len (i j : Int) : (rng i j).length = (j - i).toNat := by unfold rng; simp
theorem cRng_of {i j : Int} (h1 : -(2 ^ 62) ≤ i) (h2 : i < 2 ^ 62) (h3 : -(2 ^ 62) ≤ j) (h4 : j < 2 ^ 62) : cRng i j = true := decide_eq_true ⟨h1, h2, h3, h4⟩
end PD
set_option linter.all false
set_option maxRecDepth 100000
set_option autoImplicit false
namespace PD
open PySem L2
theorem e_frzT {Γ Γ1 : List Sl} {f : DF} {fr : Bool} {d : PyData} (h1 : f Γ = .val (.d fr d, Γ1)) (h2 : flat d = true) : dFrz f Γ = .val (.d true d, Γ1) := by
  have := e_frzD h1
  rw [h2, Bool.or_true] at this
  exact this
theorem x_callE {Γ Γ1 Γ2 : List Sl} {k : DA} {as : List AV} {ds : List PyData} {m : List Ar → R (Rs × List Sl)} {dds : List PyData} {r : Rs} {Z : List Sl} {p q : Nat} {ic : Bool × Cl} {cl : Cl} (h1 : k Γ = .val (as, Γ1)) (h2 : pickC p as = some q) (h3 : cellAt Γ1 q = some ic) (h4 : rdDs Γ1 (some q) (as.eraseIdx p) = some ds) (h5 : ic.2.fl = true) (h6 : m (insC p ic.2 (ds ++ dds)) = .val (r, Z)) (h7 : ioAt p Z = some cl) (h8 : Γ1.set q (mkS ic.1 cl) = Γ2) :
    xCallC m p dds k Γ = .val (r, Γ2) := by rw [x_callC h1 h2 h3 h4 h5 h6 h7, h8]
local macro_rules
  | `(tactic| apply_mod_cast $h) => `(tactic| (apply e_xd; apply x_callE; (· symm_saturate); (· rfl); (· rfl); (· rfl); (· rfl); (· exact $h); (· rfl); (· rfl)))
def uTake : List Ar → R (Rs × List Sl) := runB 4 2 feedTake
theorem take_q (f : Fd) (n : Int) (hm : 0 < n) (hn : n < 2 ^ 64) : ∃ r f', uTake [.c (.feed f), .d (.int n)] = .val (.d (.int r), [.io (.feed f'), .un]) ∧ 0 ≤ r ∧ r < n := by
  obtain ⟨z, e, r, f', rfl, h1, h2⟩ := feedTake_ok f n hm hn
  exact ⟨r, f', e, h1, h2⟩
def bFeed : DS := (bSeq (bRetC (nFeed 0)) bNil)
theorem feed_q (ns : List Int) : runB 1 1 bFeed [.d (dL ns)] = .val (.c (.feed (cutD ns none (some 63), 0, 0)), [.un]) := by
  refine ok_eq (ok_run rfl ?_)
  unfold bFeed
  apply w_retC
  · show nFeed 0 [.dat false (dL ns)] = _
    unfold nFeed
    show (R.ofO (intsOf (ns.map PyData.int))).bind _ = _
    rw [intsOf_map]
    rfl
  exact ⟨_, _, rfl, rfl, rfl⟩
theorem k_ninS {Γ : List Sl} {fr : Bool} {j : Nat} (x : Int) (ns : List Int) (h : Γ[j]? = some (.own (.lst (ns.map PyData.int)))) : kNinB Γ (.d fr (.int x)) (.s j) = .val (!decide (x ∈ ns)) := by
  unfold kNinB kInB dicA kIn
  simp only [rdD, h]
  rw [eqt_int.sh (by decide) x, (eqt_list eqt_int).sh (by decide) ns, any_int]
  rfl
end PD
section
open PySem L2 PD
local macro_rules
  | `(tactic| apply_mod_cast $h) => `(tactic| (apply e_xd; apply x_callE; (· symm_saturate); (· rfl); (· rfl); (· rfl); (· rfl); (· exact $h); (· rfl); (· rfl)))
set_option linter.all false
set_option maxRecDepth 100000
set_option autoImplicit false
namespace PD
open PySem L2
end PD
set_option linter.all false
set_option maxRecDepth 100000
set_option autoImplicit false
namespace PD
open PySem L2
theorem w_put {Γ Γ1 Γ2 : List Sl} {fe fi : DF} {r : DS} {m : Nat} {v kk : PyData} {fr : Bool} {c0 c : Bool × Cl} {c' : Cl} {P : Fw → List Sl → Prop} (h1 : dFrz fe Γ = .val (.d true v, Γ1)) (h2 : cellC Γ1 m = some c0) (h3 : fi Γ1 = .val (.d fr kk, Γ2)) (h4 : cellC Γ2 m = some c) (h5 : putC c.2 kk v = some c') (h : W r (Γ2.set m (mkS c.1 c')) P) : W (bSeq (bPut m fe fi) r) Γ P := w_one ⟨_, by
  unfold bPut
  rw [h1, bind_val, h2, ofO_some, bind_val, h3, bind_val, h4, ofO_some, bind_val]
  simp only [h5]
  rfl, h⟩
theorem at_nat {α : Type} {xs : List α} {f : α → PyData} {j : Nat} {x : α} (h : xs[j]? = some x) : atI (xs.map f) (j : Int) = some (f x) := atI_nat (by rw [List.getElem?_map, h]; rfl)
end PD
set_option linter.all false
set_option maxRecDepth 100000
set_option autoImplicit false
namespace PD
open PySem L2
theorem filt_sum (p : Int → Bool) : ∀ ms : List Int, (ms.filter p).length + (ms.filter fun x => !p x).length = ms.length
  | [] => rfl
  | x :: ms => by
    have := filt_sum p ms
    cases h : p x <;> simp [h] <;> omega
end PD
set_option linter.all false
set_option maxRecDepth 100000
set_option autoImplicit false
namespace PD
open PySem L2
theorem i_zipX {Γ Γ1 Γ2 : List Sl} {f g : DF} {a b : AV} {ds es : List PyData} {f1 f2 : Bool} (h1 : f Γ = .val (a, Γ1)) (h2 : g Γ1 = .val (b, Γ2)) (h3 : seqA a = some (ds, f1)) (h4 : seqA b = some (es, f2)) : iZipX f g Γ = .val ((zipD ds es, f1 && f2), Γ2) := by
  unfold iZipX
  rw [h1, bind_val, h2, bind_val, h3, ofO_some, bind_val, h4]
  rfl
end PD
set_option linter.all false
set_option autoImplicit false
namespace PD
open PySem L2
def uFeed : List Ar → R (Rs × List Sl) := runB 1 1 bFeed
def uBitsOf : List Ar → R (Rs × List Sl) := runB 6 1 bBitsOf
def uNetOf : List Ar → R (Rs × List Sl) := runB 4 1 bNetOf
end PD
set_option linter.all false
set_option maxRecDepth 100000
set_option autoImplicit false
namespace PD
open PySem L2
section
variable {Γ Γ1 Γ2 Γ3 : List Sl} {f g h : DF} {k : DA} {n : DN} {c : DC} {x : DX} {t t2 : DT} {fr fr2 z z2 : Bool} {d : PyData} {i j : Int} {ds es : List PyData} {a b : AV} {as : List AV} {P : Fw → List Sl → Prop} {r : DS} {m : Nat}
theorem e_x {s : Rs} (h1 : x Γ = .val (s, Γ1)) (h2 : rsF s = some d) : eX x Γ = .val (.d true d, Γ1) := by
  cases s with
  | d y => cases h2; exact e_xd h1
  | c y =>
    have h2 : frzC y = some d := h2
    unfold eX; rw [h1, bind_val]
    show ((R.ofO (frzC y)).bind fun e => R.val (AV.d true e, Γ1)) = _
    rw [h2]; rfl
theorem w_ifN {b c2 : DS} (h1 : t Γ = .val (z, Γ1)) (hz : z = false) (h : W (bSeq c2 r) Γ1 P) : W (bSeq (bIf t b c2) r) Γ P := w_if h1 (fun e => by rw [hz] at e; cases e) fun _ => h
theorem w_ifY {b c2 : DS} (h1 : t Γ = .val (z, Γ1)) (hz : z = true) (h : W (bSeq b r) Γ1 P) : W (bSeq (bIf t b c2) r) Γ P := w_if h1 (fun _ => h) (fun e => by rw [hz] at e; cases e)
theorem w_ifB {b c2 : DS} (h1 : t Γ = .val (z, Γ1)) (hT : z = true → W (bSeq b r) Γ1 P) (hF : z = false → W (bSeq c2 r) Γ1 P) : W (bSeq (bIf t b c2) r) Γ P := w_if h1 hT hF
theorem w_ifJ {b c2 : DS} {S : Type} (Rel : S → Prop) (sh : S → List Sl) (h1 : t Γ = .val (z, Γ1)) (hT : z = true → W b Γ1 fun w Γ2 => match w with
      | .nx => ∃ s, Γ2 = sh s ∧ Rel s
      | w => P w Γ2) (hF : z = false → W c2 Γ1 fun w Γ2 => match w with
      | .nx => ∃ s, Γ2 = sh s ∧ Rel s
      | w => P w Γ2) (h : ∀ s, Rel s → W r (sh s) P) : W (bSeq (bIf t b c2) r) Γ P := by
  refine w_if h1 (fun e => w_seq ((hT e).mono fun z hz => ?_)) (fun e => w_seq ((hF e).mono fun z hz => ?_))
  · obtain ⟨w, Γ2⟩ := z
    cases w with
    | nx => obtain ⟨s, h2, h3⟩ := hz; have h2 : Γ2 = sh s := h2; subst h2; exact h s h3
    | bk => exact hz
    | ct => exact hz
    | rt q => exact hz
  · obtain ⟨w, Γ2⟩ := z
    cases w with
    | nx => obtain ⟨s, h2, h3⟩ := hz; have h2 : Γ2 = sh s := h2; subst h2; exact h s h3
    | bk => exact hz
    | ct => exact hz
    | rt q => exact hz
theorem w_forL {α : Type} {enc : α → PyData} {is : List Nat} {gg : DG} {it : DI} {b : DS} (xs : List α) {S : Type} (Rel : Nat → S → Prop) (sh : S → List Sl) (s0 : S) (h1 : it Γ = .val ((xs.map enc, fr), Γ1)) (h0 : wipeG Γ1 is = sh s0) (hr : Rel 0 s0)
    (hb : ∀ (i : Nat) (x : α) (s : S), xs[i]? = some x → Rel i s → ∃ Γ1, gg fr (enc x) (sh s) = some Γ1 ∧ W b Γ1 fun w Γ2 => match w with
      | .nx => ∃ s', wipeG Γ2 is = sh s' ∧ Rel (i + 1) s'
      | .ct => ∃ s', wipeG Γ2 is = sh s' ∧ Rel (i + 1) s'
      | .bk => W r (wipeG Γ2 is) P
      | .rt q => P (.rt q) Γ2) (hd : ∀ s, Rel xs.length s → W r (sh s) P) : W (bSeq (bFor is gg it b) r) Γ P := by
  refine w_for (fun i Γ => ∃ s, Γ = sh s ∧ Rel i s) h1 ⟨s0, h0, hr⟩ ?_ ?_
  · rintro i d Γ hd ⟨s, rfl, hs⟩
    obtain ⟨x, hx, rfl⟩ := gmap hd
    exact hb i x s hx hs
  · rintro Γ ⟨s, rfl, hs⟩
    rw [List.length_map] at hs
    exact hd s hs
theorem w_forR {is : List Nat} {gg : DG} {it : DI} {b : DS} {N : Int} {S : Type} (Rel : Nat → S → Prop) (sh : S → List Sl) (s0 : S) (h1 : it Γ = .val (((rng 0 N).map PyData.int, fr), Γ1)) (h0 : wipeG Γ1 is = sh s0) (hr : Rel 0 s0)
    (hb : ∀ (i : Nat) (s : S), (i : Int) < N → Rel i s → ∃ Γ1, gg fr (.int (i : Nat)) (sh s) = some Γ1 ∧ W b Γ1 fun w Γ2 => match w with
      | .nx => ∃ s', wipeG Γ2 is = sh s' ∧ Rel (i + 1) s'
      | .ct => ∃ s', wipeG Γ2 is = sh s' ∧ Rel (i + 1) s'
      | .bk => W r (wipeG Γ2 is) P
      | .rt q => P (.rt q) Γ2) (hd : ∀ s, Rel N.toNat s → W r (sh s) P) : W (bSeq (bFor is gg it b) r) Γ P := by
  refine w_forL (rng 0 N) Rel sh s0 h1 h0 hr ?_ ?_
  · intro i x s hx hs
    obtain ⟨rfl, hi⟩ := rng_at hx
    exact hb i s hi hs
  · intro s hs
    rw [rng_len] at hs
    exact hd s (by simpa using hs)
theorem w_forE {α : Type} {enc : α → PyData} {is : List Nat} {gg : DG} {it : DI} {b : DS} (xs : List α) {S : Type} (Rel : Nat → S → Prop) (sh : S → List Sl) (s0 : S) (h1 : it Γ = .val ((enumD (xs.map enc), fr), Γ1)) (h0 : wipeG Γ1 is = sh s0) (hr : Rel 0 s0)
    (hb : ∀ (i : Nat) (x : α) (s : S), xs[i]? = some x → Rel i s → ∃ Γ1, gg fr (.tuple [.int (i : Nat), enc x]) (sh s) = some Γ1 ∧ W b Γ1 fun w Γ2 => match w with
      | .nx => ∃ s', wipeG Γ2 is = sh s' ∧ Rel (i + 1) s'
      | .ct => ∃ s', wipeG Γ2 is = sh s' ∧ Rel (i + 1) s'
      | .bk => W r (wipeG Γ2 is) P
      | .rt q => P (.rt q) Γ2) (hd : ∀ s, Rel xs.length s → W r (sh s) P) : W (bSeq (bFor is gg it b) r) Γ P := by
  refine w_for (fun i Γ => ∃ s, Γ = sh s ∧ Rel i s) h1 ⟨s0, h0, hr⟩ ?_ ?_
  · rintro i d Γ hd ⟨s, rfl, hs⟩
    obtain ⟨y, hy, rfl⟩ := enumD_at hd
    obtain ⟨x, hx, rfl⟩ := gmap hy
    exact hb i x s hx hs
  · rintro Γ ⟨s, rfl, hs⟩
    rw [enumD_len, List.length_map] at hs
    exact hd s hs
theorem w_whileS {is : List Nat} {fl : List Sl → Nat} {b : DS} {S : Type} (Rel : S → Prop) (ms : S → Nat) (sh : S → List Sl) (s0 : S) (h0 : wipeG Γ is = sh s0) (hr : Rel s0) (hk : ms s0 < fl Γ)
    (hb : ∀ s, Rel s → ∃ z Γ1, t (sh s) = .val (z, Γ1) ∧ (z = true → W b Γ1 fun w Γ2 => match w with
      | .nx => ∃ s', wipeG Γ2 is = sh s' ∧ Rel s' ∧ ms s' < ms s
      | .ct => ∃ s', wipeG Γ2 is = sh s' ∧ Rel s' ∧ ms s' < ms s
      | .bk => W r (wipeG Γ2 is) P
      | .rt q => P (.rt q) Γ2) ∧ (z = false → W r Γ1 P)) : W (bSeq (bWhile is fl t b) r) Γ P := by
  refine w_while (fun n Γ => ∃ s, Γ = sh s ∧ Rel s ∧ ms s = n) (ms s0) hk ⟨s0, h0, hr, rfl⟩ ?_
  rintro n Γ ⟨s, rfl, hs, rfl⟩
  obtain ⟨z, Γ1, e, hT, hF⟩ := hb s hs
  refine ⟨z, Γ1, e, fun hz => ?_, hF⟩
  refine (hT hz).mono fun y hy => ?_
  obtain ⟨w, Γ2⟩ := y
  cases w with
  | nx => obtain ⟨s', h1, h2, h3⟩ := hy; exact ⟨_, h3, s', h1, h2, rfl⟩
  | ct => obtain ⟨s', h1, h2, h3⟩ := hy; exact ⟨_, h3, s', h1, h2, rfl⟩
  | bk => exact hy
  | rt q => exact hy
theorem k_lenI {α : Type} {enc : α → PyData} {xs : List α} (h : rdD Γ a = some (.list (xs.map enc))) : kLen Γ [a] = .val (.d true (.int (xs.length : Nat))) := by rw [k_lenL h, List.length_map]
theorem k_lenJ {α : Type} {enc : α → PyData} {xs : List α} (h : rdD Γ a = some (.tuple (xs.map enc))) : kLen Γ [a] = .val (.d true (.int (xs.length : Nat))) := by rw [k_lenT h, List.length_map]
theorem k_mx2 : kMax2 Γ [.d fr (.int i), .d fr2 (.int j)] = .val (.d true (.int (max2 i j))) := rfl
theorem k_mn2 : kMin2 Γ [.d fr (.int i), .d fr2 (.int j)] = .val (.d true (.int (min2 i j))) := rfl
end
end PD
set_option linter.all false
set_option maxRecDepth 100000
set_option autoImplicit false
namespace PD
open PySem L2
theorem filt_yes {α : Type} (xs : List α) : xs.filter (fun _ => true) = xs := List.filter_eq_self.mpr fun _ _ => rfl
theorem n_map {α : Type} {enc : α → PyData} (xs : List α) (v : α → PyData) {vs : List Nat} {g : DG} {it : DI} {e : DF} {Γ Γ1 Γ0 : List Sl} {fr : Bool} (h1 : it Γ = .val ((xs.map enc, fr), Γ1)) (hs : xs.length < 2 ^ 20) (h0 : wipeG Γ1 vs = Γ0)
    (hb : ∀ x ∈ xs, ∃ Γ2, g fr (enc x) Γ0 = some Γ2 ∧ wipeG Γ2 vs = Γ0 ∧ e Γ2 = .val (.d true (v x), Γ2)) : nComp vs g it tYes e Γ = .val (xs.map v, Γ0) := by
  have := n_comp xs (fun _ => true) v h1 hs h0 (t := tYes) (e := e) fun x hx => by
    obtain ⟨Γ2, q1, q2, q3⟩ := hb x hx
    exact ⟨Γ2, q1, q2, rfl, fun _ => q3⟩
  rw [filt_yes] at this
  exact this
theorem e_ap {Γ Γ1 : List Sl} {f : DF} {d : PyData} {ds es : List PyData} {m : Nat} {io : Bool} (h0 : cellL Γ m = some (io, es)) (h1 : dFrz f Γ = .val (.d true d, Γ1)) (h2 : cellL Γ1 m = some (io, ds)) (h3 : ltS ds = true) : dLm m qAppend (dAc (dFrz f) dA0) Γ = .val (.d true .none, Γ1.set m (mkS io (.lst (ds ++ [d])))) := by
  unfold dLm
  rw [h0, ofO_some, bind_val, a_cons h1 a_nil, bind_val, h2, ofO_some, bind_val]
  show ((qAppend ds [.d true d]).bind _) = _
  unfold qAppend
  simp only [h3]
  rfl
theorem ltS_map {α β : Type} {f : α → β} {xs : List α} (h : xs.length < 2 ^ 20) : ltS (xs.map f) = true := ltS_of (by rw [List.length_map]; exact h)
theorem szB_map {α β : Type} {f : α → β} {xs : List α} (h : xs.length < 2 ^ 20) : szB (xs.map f) = true := szB_of (by rw [List.length_map]; exact h)
section
variable {Γ : List Sl} {a b : AV} {α : Type} [DecidableEq α] {enc : α → PyData} {k : Nat} {x y : α}
theorem any_T (E : EqT enc k) : ∀ xs : List α, ((xs.map enc).any fun z => PyData.eqv z (enc x)) = decide (x ∈ xs)
  | [] => rfl
  | y :: ys => by
    rw [List.map_cons, List.any_cons, any_T E ys, E.eq y x]
    by_cases h : y = x
    · subst h; simp
    · have : ¬ x = y := fun e => h e.symm
      simp [h, this]
theorem rd_own {Γ : List Sl} {m : Nat} {ds : List PyData} (h : Γ[m]? = some (.own (.lst ds))) : rdD Γ (.s m) = some (.list ds) := by unfold rdD; simp only [h]
theorem dicA_lst {Γ : List Sl} {ds : List PyData} {a : AV} (h : rdD Γ a = some (.list ds)) : dicA Γ a = none := by
  unfold dicA
  cases a with
  | d fr d => cases h; rfl
  | s j =>
    unfold rdD at h
    simp only at h ⊢
    split at h <;> simp_all
theorem k_inT (E : EqT enc k) (hk : k + 1 ≤ 64) {xs : List α} (h1 : rdD Γ a = some (enc x)) (h2 : rdD Γ b = some (.list (xs.map enc))) : kInB Γ a b = .val (decide (x ∈ xs)) := by
  unfold kInB
  rw [dicA_lst h2]
  unfold kIn
  simp only [h1, h2]
  rw [E.sh (by omega) x, (eqt_list E).sh hk xs, any_T E]
  rfl
end
abbrev dKV (kvs : List (Int × PyData)) : List (PyData × PyData) := kvs.map fun z => (PyData.int z.1, z.2)
def lookI (kvs : List (Int × PyData)) (k : Int) : Option PyData := (kvs.find? fun z => decide (z.1 = k)).map (·.2)
def putI (kvs : List (Int × PyData)) (k : Int) (v : PyData) : List (Int × PyData) := if kvs.any (fun z => decide (z.1 = k)) then kvs.map (fun z => if z.1 = k then (z.1, v) else z) else kvs ++ [(k, v)]
theorem getD_kv (kvs : List (Int × PyData)) (k : Int) : getD (dKV kvs) (.int k) = lookI kvs k := by
  unfold getD lookI
  rw [List.find?_map, Option.map_map]
  rfl
theorem lookI_nil (k : Int) : lookI [] k = none := rfl
theorem lookI_none {kvs : List (Int × PyData)} {k : Int} : lookI kvs k = none ↔ ∀ v, (k, v) ∉ kvs := by
  unfold lookI
  rw [Option.map_eq_none_iff, List.find?_eq_none]
  constructor
  · intro h v hv
    exact h _ hv (by simp)
  · intro h z hz e
    have e : z.1 = k := by simpa using e
    exact h z.2 (by rw [← e]; exact hz)
theorem lookI_cons (z : Int × PyData) (kvs : List (Int × PyData)) (k : Int) : lookI (z :: kvs) k = if z.1 = k then some z.2 else lookI kvs k := by
  unfold lookI
  rw [List.find?_cons]
  by_cases h : z.1 = k <;> simp [h]
theorem lookI_snoc (kvs : List (Int × PyData)) (a : Int) (v : PyData) (k : Int) : lookI (kvs ++ [(a, v)]) k = if (lookI kvs k).isSome then lookI kvs k else if a = k then some v else none := by
  induction kvs with
  | nil => simp [lookI_cons, lookI_nil]
  | cons z r ih =>
    rw [List.cons_append, lookI_cons, lookI_cons, ih]
    by_cases h : z.1 = k <;> simp [h]
theorem any_lookI (kvs : List (Int × PyData)) (k : Int) : kvs.any (fun z => decide (z.1 = k)) = (lookI kvs k).isSome := by
  induction kvs with
  | nil => rfl
  | cons z r ih => rw [List.any_cons, lookI_cons, ih]; by_cases h : z.1 = k <;> simp [h]
theorem lookI_put (kvs : List (Int × PyData)) (a : Int) (v : PyData) (k : Int) : lookI (putI kvs a v) k = if k = a then some v else lookI kvs k := by
  unfold putI
  rw [any_lookI]
  split
  · rename_i hs
    induction kvs with
    | nil => simp [lookI_nil] at hs
    | cons z r ih =>
      rw [List.map_cons, lookI_cons, lookI_cons]
      rw [lookI_cons] at hs
      by_cases h : z.1 = a
      · subst h
        simp only [if_true]
        by_cases h2 : z.1 = k
        · subst h2; simp
        · rw [if_neg h2, if_neg h2, if_neg (Ne.symm h2)]
          by_cases h3 : (lookI r z.1).isSome
          · rw [ih h3, if_neg (Ne.symm h2)]
          · have hn : lookI r z.1 = none := by simpa using h3
            have : r.map (fun y => if y.1 = z.1 then (y.1, v) else y) = r := by
              have e2 : r.map (fun y => if y.1 = z.1 then (y.1, v) else y) = r.map id := List.map_congr_left fun y hy => by
                rw [if_neg]
                · rfl
                · intro q
                  exact lookI_none.mp hn y.2 (by rw [← q]; exact hy)
              rw [e2, List.map_id]
            rw [this]
      · rw [if_neg h] at hs
        simp only [if_neg h]
        rw [ih hs]
        by_cases h2 : z.1 = k
        · subst h2; simp [h]
        · simp [h2]
  · rename_i hs
    rw [lookI_snoc]
    by_cases h : k = a
    · subst h; simp at hs; simp [hs]
    · rw [if_neg h, if_neg (Ne.symm h)]
      split
      · rfl
      · rename_i h2; simp at h2; rw [h2]
theorem putI_new {kvs : List (Int × PyData)} {a : Int} (v : PyData) (h : lookI kvs a = none) : putI kvs a v = kvs ++ [(a, v)] := by
  unfold putI
  rw [any_lookI, h]
  simp
section
variable {Γ : List Sl} {fr fr2 io : Bool} {k : Int} {kvs : List (Int × PyData)} {m : Nat} {v : PyData}
theorem k_ninKS (h : dicA Γ (.s m) = some (true, .k, dKV kvs)) : kNinB Γ (.d fr (.int k)) (.s m) = .val (!(lookI kvs k).isSome) := by
  unfold kNinB kInB
  simp only [h, rdD, getD_kv]
  rfl
theorem k_inKS (h : dicA Γ (.s m) = some (true, .k, dKV kvs)) : kInB Γ (.d fr (.int k)) (.s m) = .val (lookI kvs k).isSome := by
  unfold kInB
  simp only [h, rdD, getD_kv]
  rfl
end
theorem e_pop {Γ : List Sl} {m : Nat} {io : Bool} {ds : List PyData} {y : PyData} (h : cellL Γ m = some (io, ds ++ [y])) : dLm m qPop dA0 Γ = .val (.d true y, Γ.set m (mkS io (.lst ds))) := by
  unfold dLm
  rw [h, ofO_some, bind_val, a_nil, bind_val, h, ofO_some, bind_val]
  unfold qPop
  simp only [List.getLast?_concat, List.dropLast_concat]
  rfl
theorem e_ins {Γ Γ1 : List Sl} {m : Nat} {io : Bool} {es ds : List PyData} {fi fx : DF} {n : Int} {y : PyData} {fr : Bool} (h0 : cellL Γ m = some (io, es)) (h1 : dAc fi (dAc (dFrz fx) dA0) Γ = .val ([.d fr (.int n), .d true y], Γ1)) (h2 : cellL Γ1 m = some (io, ds)) (h3 : cIns ds n = true) : dLm m qInsert (dAc fi (dAc (dFrz fx) dA0)) Γ = .val (.d true .none, Γ1.set m (mkS io (.lst (insI ds n y)))) := by
  unfold dLm
  rw [h0, ofO_some, bind_val, h1, bind_val, h2, ofO_some, bind_val]
  unfold qInsert
  simp only [h3]
  rfl
theorem shS {a : Str} (h : PyData.strOk a = true) : SeqAt.shaped (.str a) = true := by
  unfold SeqAt.shaped
  rw [PyData.canLay0, h]
  rfl
theorem k_neS {Γ : List Sl} {f1 f2 : Bool} {a b : Str} (h1 : PyData.strOk a = true := by decide +kernel) (h2 : PyData.strOk b = true := by decide +kernel) : kNe Γ (.d f1 (.str a)) (.d f2 (.str b)) = .val (!decide (a = b)) := k_ne rfl rfl (shS h1) (shS h2) (by show (a == b) = _; rfl)
theorem k_eqS {Γ : List Sl} {f1 f2 : Bool} {a b : Str} (h1 : PyData.strOk a = true := by decide +kernel) (h2 : PyData.strOk b = true := by decide +kernel) : kEq Γ (.d f1 (.str a)) (.d f2 (.str b)) = .val (decide (a = b)) := k_eq rfl rfl (shS h1) (shS h2) (by show (a == b) = _; rfl)
theorem x_callM {Γ Γ1 : List Sl} {k : DA} {as : List AV} {ars : List Ar} {ms : List Bool} {m : List Ar → R (Rs × List Sl)} {dds : List PyData} {r : Rs} {Z : List Sl} (h1 : k Γ = .val (as, Γ1)) (h2 : rdAs Γ1 none ms as = some ars) (h3 : m (ars ++ dds.map Ar.d) = .val (r, Z)) : xCallM m ms dds k Γ = .val (r, Γ1) := by
  unfold xCallM; rw [h1, bind_val, h2, ofO_some, bind_val, h3]; rfl
end PD
set_option linter.all false
set_option maxRecDepth 100000
set_option autoImplicit false
namespace PD
open PySem L2
theorem as_call {m : List Ar → R (Rs × List Sl)} {as : List Ar} {z : Rs × List Sl} (h : m as = .val z) : m as = .val z := h
local macro_rules
  | `(tactic| array_get_dec) => `(tactic| with_reducible first
  | exact e_C | exact a_nil | exact k_sub | exact k_and | exact k_or | exact k_eqI | exact k_neI | exact k_I | exact k_mx2 | exact k_mn2
  | apply e_I | apply e_add | apply e_neg | apply e_cmp | apply t_tst | apply t_not | apply e_not | apply t_or | apply t_and | apply e_and | apply e_or
  | apply k_mul | apply k_div | apply k_mod | apply k_pow | apply k_shl | apply k_shr
  | apply a_cons | apply n_lst | apply e_tup | apply e_ofN | apply c_l | apply x_c | apply e_B | apply n_B | apply e_isi
  | apply e_x | apply x_call | apply x_callE | apply x_callM | apply e_frzT | apply e_ap | apply i_seqL | apply i_seqT | apply i_enumL | apply i_enumT | apply i_range1 | apply i_range2 | apply n_lrng1 | apply n_lrng2)
local macro_rules
  | `(tactic| array_mem_dec) => `(tactic| repeat' first | exact e_frz (e_var rfl) | array_get_dec | exact e_var rfl | exact e_varO rfl | exact e_varI rfl | (refine as_call ?_; assumption) | exact k_neS | exact k_eqS | exact e_pop rfl | exact e_ixT (e_var rfl) e_C rfl | exact e_ixL (e_var rfl) e_C rfl | exact e_ixS (e_varI rfl) e_C rfl rfl | exact e_ixS (e_varO rfl) e_C rfl rfl | exact k_ninKS rfl | exact k_inKS rfl | exact k_lenI rfl | exact k_lenJ rfl | rfl | exact flat_int _ | (intro _))
local macro_rules
  | `(tactic| and_intros) => `(tactic| repeat (with_reducible first | apply w_seqN | apply w_seqA))
local macro_rules
  | `(tactic| bv_decide) => `(tactic| (and_intros; (with_reducible first | apply w_set | apply w_setX | apply w_setC | apply w_setG | apply w_expr | apply w_exprX | apply w_inc); array_mem_dec))
local macro_rules
  | `(tactic| bv_normalize) => `(tactic| (and_intros; apply w_ifN; array_mem_dec; (try (case hz => first | rfl | (simp [tyIs, isN, optI]; done) | (simp [tyIs, isN, optI]; omega))); and_intros))
local macro_rules
  | `(tactic| simp_all_arith) => `(tactic| (and_intros; apply w_ifY; array_mem_dec; (try (case hz => first | rfl | (simp [tyIs, isN, optI]; done) | (simp [tyIs, isN, optI]; omega))); and_intros))
local macro_rules
  | `(tactic| apply_assumption) => `(tactic| (and_intros; apply w_ifB; focus array_mem_dec))
local macro_rules
  | `(tactic| nofun) => `(tactic| (and_intros; (with_reducible first | apply w_ret | apply w_retX | apply w_retC | apply w_retO | apply w_ret0); array_mem_dec))
local macro_rules
  | `(tactic| ac_rfl) => `(tactic| (all_goals (try (with_reducible first | exact mulL (by decide) | exact mulR (by decide) | exact mulR (by omega) | exact mulL (by omega) | exact mulL (mod_64 (by decide) (by decide)) | exact modP (by first | assumption | decide | omega) | exact divP (by first | assumption | decide | omega) (by first | assumption | decide | omega) | exact cRng_of (by omega) (by omega) (by omega) (by omega)))))
end PD
section
open PySem L2 PD
local macro_rules
  | `(tactic| array_get_dec) => `(tactic| with_reducible first
  | exact e_C | exact a_nil | exact k_sub | exact k_and | exact k_or | exact k_eqI | exact k_neI | exact k_I | exact k_mx2 | exact k_mn2
  | apply e_I | apply e_add | apply e_neg | apply e_cmp | apply t_tst | apply t_not | apply e_not | apply t_or | apply t_and | apply e_and | apply e_or
  | apply k_mul | apply k_div | apply k_mod | apply k_pow | apply k_shl | apply k_shr
  | apply a_cons | apply n_lst | apply e_tup | apply e_ofN | apply c_l | apply x_c | apply e_B | apply n_B | apply e_isi
  | apply e_x | apply x_call | apply x_callE | apply x_callM | apply e_frzT | apply e_ap | apply i_seqL | apply i_seqT | apply i_enumL | apply i_enumT | apply i_range1 | apply i_range2 | apply n_lrng1 | apply n_lrng2)
local macro_rules
  | `(tactic| array_mem_dec) => `(tactic| repeat' first | exact e_frz (e_var rfl) | array_get_dec | exact e_var rfl | exact e_varO rfl | exact e_varI rfl | (refine as_call ?_; assumption) | exact k_neS | exact k_eqS | exact e_pop rfl | exact e_ixT (e_var rfl) e_C rfl | exact e_ixL (e_var rfl) e_C rfl | exact e_ixS (e_varI rfl) e_C rfl rfl | exact e_ixS (e_varO rfl) e_C rfl rfl | exact k_ninKS rfl | exact k_inKS rfl | exact k_lenI rfl | exact k_lenJ rfl | rfl | exact flat_int _ | (intro _))
local macro_rules
  | `(tactic| and_intros) => `(tactic| repeat (with_reducible first | apply w_seqN | apply w_seqA))
local macro_rules
  | `(tactic| bv_decide) => `(tactic| (and_intros; (with_reducible first | apply w_set | apply w_setX | apply w_setC | apply w_setG | apply w_expr | apply w_exprX | apply w_inc); array_mem_dec))
local macro_rules
  | `(tactic| bv_normalize) => `(tactic| (and_intros; apply w_ifN; array_mem_dec; (try (case hz => first | rfl | (simp [tyIs, isN, optI]; done) | (simp [tyIs, isN, optI]; omega))); and_intros))
local macro_rules
  | `(tactic| simp_all_arith) => `(tactic| (and_intros; apply w_ifY; array_mem_dec; (try (case hz => first | rfl | (simp [tyIs, isN, optI]; done) | (simp [tyIs, isN, optI]; omega))); and_intros))
local macro_rules
  | `(tactic| apply_assumption) => `(tactic| (and_intros; apply w_ifB; focus array_mem_dec))
local macro_rules
  | `(tactic| nofun) => `(tactic| (and_intros; (with_reducible first | apply w_ret | apply w_retX | apply w_retC | apply w_retO | apply w_ret0); array_mem_dec))
local macro_rules
  | `(tactic| ac_rfl) => `(tactic| (all_goals (try (with_reducible first | exact mulL (by decide) | exact mulR (by decide) | exact mulR (by omega) | exact mulL (by omega) | exact mulL (mod_64 (by decide) (by decide)) | exact modP (by first | assumption | decide | omega) | exact divP (by first | assumption | decide | omega) (by first | assumption | decide | omega) | exact cRng_of (by omega) (by omega) (by omega) (by omega)))))
set_option linter.all false
set_option maxRecDepth 100000
set_option autoImplicit false
namespace PD
open PySem L2
def b_qword : DS := (bSeq (bSet 1 (dC (.str ""))) (bSeq (bFor [2] (gN 2) (iRange1 (dAdd (dC (.int 1)) (eX (xCallC uTake 0 [] (dAc (dVar 0) (dAc (dC (.int 8)) dA0)))))) (bSeq (bSet 1 (dAdd (dVar 1) (dIxS (dC (.str "abcdefghijklmnopqrstuvwxyz")) (eX (xCallC uTake 0 [] (dAc (dVar 0) (dAc (dC (.int 26)) dA0))))))) bNil)) (bSeq (bRet (dVar 1)) bNil)))
def u_qword : List Ar → R (Rs × List Sl) := runB 3 1 b_qword
def b_qnames : DS := (bSeq (bSet 2 (dC (.str "abcdefghijklmnopqrstuvwxyz"))) (bSeq (bSet 3 (eX (xCallC uTake 0 [] (dAc (dVar 0) (dAc (dC (.int 2)) dA0))))) (bSeq (bSet 4 (eX (xCallC u_qword 0 [] (dAc (dVar 0) dA0)))) (bSeq (bSet 5 (eX (xCallC uTake 0 [] (dAc (dVar 0) (dAc (dB kLen (dAc (dVar 4) dA0)) dA0))))) (bSeq (bSetX 6 (xC (nL (dLst dA0)))) (bSeq (bFor [7, 8, 9, 10] (gN 7) (iRange1 (dVar 1)) (bSeq (bSet 8 (dAdd (dAdd (dCutS (dVar 4) oNone (oSome (dVar 5))) (dIxS (dVar 2) (dI kMod (dVar 7) (dC (.int 26))))) (dCutS (dVar 4) (oSome (dAdd (dVar 5) (dC (.int 1)))) oNone))) (bSeq (bIf (dTst (dCmp kEq (dVar 3) (dC (.int 0)))) (bSeq (bSet 8 (eX (xCallC u_qword 0 [] (dAc (dVar 0) dA0)))) bNil) bNil) (bSeq (bSet 9 (dC (.int 0))) (bSeq (bSet 10 (dFrz (dVar 8))) (bSeq (bWhile [] (fun _ => 1000000) (dTor (dTst (dCmp kInB (dVar 10) (dVar 6))) (dTst (dCmp kInB (dVar 10) (dTup (dAc (dC (.str "none")) (dAc (dC (.str "open")) dA0)))))) (bSeq (bSet 10 (dFrz (dCutS (dAdd (dAdd (dIxS (dVar 2) (dI kDiv (dVar 9) (dC (.int 26)))) (dIxS (dVar 2) (dI kMod (dVar 9) (dC (.int 26))))) (dVar 8)) oNone (oSome (dC (.int 8)))))) (bSeq (bSet 9 (dAdd (dVar 9) (dC (.int 1)))) bNil))) (bSeq (bExpr (dLm 6 qAppend (dAc (dFrz (dVar 10)) dA0))) bNil))))))) (bSeq (bRetO 6) bNil)))))))
def u_qnames : List Ar → R (Rs × List Sl) := runB 11 2 b_qnames
def b_p_names_in : DS := (bSeq (bRetC (nL (nComp [1] (gN 1) (iSeq (dVar 0)) tYes (dFrz (dIxB (dVar 1) (dC (.int 0))))))) bNil)
def u_p_names_in : List Ar → R (Rs × List Sl) := runB 2 1 b_p_names_in
end PD
set_option Elab.async false
set_option linter.all false
set_option maxRecDepth 100000
set_option maxHeartbeats 0
set_option autoImplicit false
namespace PDW
open PySem PySem.Spec PyProof.Rows L2 PD
structure Env (K : PySem.W.Frag) (mg : Str → Option Value) : Prop where
  d_p_law : ∃ f fd, FunD K "law" "law" (defArgs (top 30)) (defBody (top 30)) (defScope (top 30)) [] [] f fd ∧ mg "law" = some (.ref f)
  d_qnamed : ∃ f fd, FunD K "_law_named" "_law_named" (defArgs (top 27)) (defBody (top 27)) (defScope (top 27)) [] [] f fd ∧ mg "_law_named" = some (.ref f)
  d_qtake : ∃ f fd, FunD K "_law_take" "_law_take" (defArgs (top 23)) (defBody (top 23)) (defScope (top 23)) [] [] f fd ∧ mg "_law_take" = some (.ref f)
  d_qnames : ∃ f fd, FunD K "_law_names" "_law_names" (defArgs (top 25)) (defBody (top 25)) (defScope (top 25)) [] [] f fd ∧ mg "_law_names" = some (.ref f)
  d_qword : ∃ f fd, FunD K "_law_word" "_law_word" (defArgs (top 24)) (defBody (top 24)) (defScope (top 24)) [] [] f fd ∧ mg "_law_word" = some (.ref f)
  d_qprice : ∃ f fd, FunD K "_law_price" "_law_price" (defArgs (top 26)) (defBody (top 26)) (defScope (top 26)) [] [] f fd ∧ mg "_law_price" = some (.ref f)
  d_qfeed : ∃ f fd, FunD K "_law_feed" "_law_feed" (defArgs (top 22)) (defBody (top 22)) (defScope (top 22)) [] [] f fd ∧ mg "_law_feed" = some (.ref f)
  d_qtext : ∃ f fd, FunD K "_law_text" "_law_text" (defArgs (top 28)) (defBody (top 28)) (defScope (top 28)) [] [] f fd ∧ mg "_law_text" = some (.ref f)
  d_p_read_net : ∃ f fd, FunD K "read_net" "read_net" (defArgs (top 16)) (defBody (top 16)) (defScope (top 16)) [] [] f fd ∧ mg "read_net" = some (.ref f)
  d_p_row_in : ∃ f fd, FunD K "row_in" "row_in" (defArgs (top 15)) (defBody (top 15)) (defScope (top 15)) [] [] f fd ∧ mg "row_in" = some (.ref f)
  d_p_is_name : ∃ f fd, FunD K "is_name" "is_name" (defArgs (top 13)) (defBody (top 13)) (defScope (top 13)) [] [] f fd ∧ mg "is_name" = some (.ref f)
  d_p_price_in : ∃ f fd, FunD K "price_in" "price_in" (defArgs (top 14)) (defBody (top 14)) (defScope (top 14)) [] [] f fd ∧ mg "price_in" = some (.ref f)
  d_qsame : ∃ f fd, FunD K "_law_same" "_law_same" (defArgs (top 29)) (defBody (top 29)) (defScope (top 29)) [] [] f fd ∧ mg "_law_same" = some (.ref f)
  d_p_show_net : ∃ f fd, FunD K "show_net" "show_net" (defArgs (top 17)) (defBody (top 17)) (defScope (top 17)) [] [] f fd ∧ mg "show_net" = some (.ref f)
  d_p_prices_in : ∃ f fd, FunD K "prices_in" "prices_in" (defArgs (top 20)) (defBody (top 20)) (defScope (top 20)) [] [] f fd ∧ mg "prices_in" = some (.ref f)
  d_p_net_in : ∃ f fd, FunD K "net_in" "net_in" (defArgs (top 19)) (defBody (top 19)) (defScope (top 19)) [] [] f fd ∧ mg "net_in" = some (.ref f)
  d_p_names_in : ∃ f fd, FunD K "names_in" "names_in" (defArgs (top 18)) (defBody (top 18)) (defScope (top 18)) [] [] f fd ∧ mg "names_in" = some (.ref f)
  d_p_net_of : ∃ f fd, FunD K "net_of" "net_of" (defArgs (top 7)) (defBody (top 7)) (defScope (top 7)) [] [] f fd ∧ mg "net_of" = some (.ref f)
  d_p_are_elders : ∃ f fd, FunD K "are_elders" "are_elders" (defArgs (top 6)) (defBody (top 6)) (defScope (top 6)) [] [] f fd ∧ mg "are_elders" = some (.ref f)
  b_range : mg "range" = none
  b_len : mg "len" = none
  b_int : mg "int" = none
  b_tuple : mg "tuple" = none
  b_list : mg "list" = none
  b_str : mg "str" = none
  b_sorted : mg "sorted" = none
  b_isinstance : mg "isinstance" = none
  b_enumerate : mg "enumerate" = none
  b_all : mg "all" = none
  b_set : mg "set" = none
  b_zip : mg "zip" = none
  b_bool : mg "bool" = none
  g_LETTERS : ∃ t, mg "LETTERS" = some (.str "abcdefghijklmnopqrstuvwxyz" t)
  g_FIGURES : ∃ t, mg "FIGURES" = some (.str "0123456789" t)
  g_MOST_PRICE : ∃ t, mg "MOST_PRICE" = some (.int 1000000000000000000000000000000 t)
  g_MOST_ROWS : ∃ t, mg "MOST_ROWS" = some (.int 40 t)
  g_MOST : ∃ t, mg "MOST" = some (.int 40 t)
  x_all : XAll K mg ["NoNet", "NoText"] [] [] ["make", "row"]
  hunt : HuntC K (He.ga K "HuntError") ∧ mg "HuntError" = some (.ref (He.ga K "HuntError"))
  i_NoText : ∃ fd, FunD K "__init__" "NoText.__init__" (defArgs (clsInit (top 3))) (defBody (clsInit (top 3))) (defScope (clsInit (top 3))) [] [] (He.fAd K ("NoText", some "__init__")) fd
  j_NoText : IniC K "NoText"
  i_NoNet : ∃ fd, FunD K "__init__" "NoNet.__init__" (defArgs (clsInit (top 2))) (defBody (clsInit (top 2))) (defScope (clsInit (top 2))) [] [] (He.fAd K ("NoNet", some "__init__")) fd
  j_NoNet : IniC K "NoNet"
theorem sc_qtake : FnScope ["_law_feed_here", "_law_many", "_law_cell", "_law_mixed"] ["_law_feed_here", "_law_many"] (defScope (top 23)) := ⟨rfl, rfl, rfl, by decide +kernel, rfl, by decide +kernel, by decide +kernel⟩
theorem fo_qtake {P : Program} {w : World} {K : PySem.W.Frag} {mg : Str → Option Value} {base : Heap} (E : Env K mg) {f : Addr} {fd : FuncData} (F : FunD K "_law_take" "_law_take" (defArgs (top 23)) (defBody (top 23)) (defScope (top 23)) [] [] f fd) : FnOk P w K mg base (L2.CX P w) (0 + 1) f fd ["_law_feed_here", "_law_many"] (spU K mg uTake) := by
  refine fn_u (N := ["_law_feed_here", "_law_many", "_law_cell", "_law_mixed"]) (ps := ["_law_feed_here", "_law_many"]) (k := 0) F sc_qtake (b := feedTake) (by decide) fun X W h => ?_
  have C := h.cf
  have n0 : (["_law_feed_here", "_law_many", "_law_cell", "_law_mixed"] : List Str)[0]? = some ("_law_feed_here" : Str) := rfl
  have v0 : visB (defScope (top 23)) "_law_feed_here" = true := by decide +kernel
  have s0 : Sto X (defScope (top 23)) "_law_feed_here" := sto_c h.fn (by decide +kernel)
  have n1 : (["_law_feed_here", "_law_many", "_law_cell", "_law_mixed"] : List Str)[1]? = some ("_law_many" : Str) := rfl
  have v1 : visB (defScope (top 23)) "_law_many" = true := by decide +kernel
  have s1 : Sto X (defScope (top 23)) "_law_many" := sto_c h.fn (by decide +kernel)
  have n2 : (["_law_feed_here", "_law_many", "_law_cell", "_law_mixed"] : List Str)[2]? = some ("_law_cell" : Str) := rfl
  have v2 : visB (defScope (top 23)) "_law_cell" = true := by decide +kernel
  have s2 : Sto X (defScope (top 23)) "_law_cell" := sto_c h.fn (by decide +kernel)
  have n3 : (["_law_feed_here", "_law_many", "_law_cell", "_law_mixed"] : List Str)[3]? = some ("_law_mixed" : Str) := rfl
  have v3 : visB (defScope (top 23)) "_law_mixed" = true := by decide +kernel
  have s3 : Sto X (defScope (top 23)) "_law_mixed" := sto_c h.fn (by decide +kernel)
  unfold feedTake
  exact (cs_cons (c1_fdT C.toCf0 0 n0 v0 (ce_add (ce_fdT C.toCf0 0 n0 v0) ce_int)) (cs_cons (c1_if (ct_cmp (ce_fdN C.toCf0 0 n0 v0)) (cs_cons (c1_set C.toCf0 2 n2 s2 (ce_frz (ce_fd0 C.toCf0 0 n0 v0))) (cs_cons (c1_if (ct_cmp (ce_ge (ce_var C.toCf0 2 n2 (by decide +kernel)) (ce_pow ce_int ce_int))) (cs_cons (c1_fd0 C.toCf0 0 n0 v0 (ce_fdiv (ce_var C.toCf0 2 n2 (by decide +kernel)) (ce_var C.toCf0 1 n1 (by decide +kernel)))) (cs_cons (c1_ret (ce_mod (ce_var C.toCf0 2 n2 (by decide +kernel)) (ce_var C.toCf0 1 n1 (by decide +kernel)))) cs_nil)) cs_nil) (cs_cons (c1_fdS C.toCf0 0 n0 v0 (ce_mod (ce_add (ce_add (ce_mul (ce_fdS C.toCf0 0 n0 v0) ce_int) (ce_mod (ce_var C.toCf0 2 n2 (by decide +kernel)) ce_int)) ce_int) ce_int)) (cs_cons (c1_fdC C.toCf0 0 n0 v0) cs_nil)))) cs_nil) (cs_cons (c1_set C.toCf0 3 n3 s3 (ce_mod (ce_mul (ce_add (ce_add (ce_fdS C.toCf0 0 n0 v0) (ce_mul ce_int (ce_fdT C.toCf0 0 n0 v0))) ce_int) ce_int) ce_int)) (cs_cons (c1_set C.toCf0 3 n3 s3 (ce_mod (ce_add (ce_add (ce_mul (ce_var C.toCf0 3 n3 (by decide +kernel)) (ce_var C.toCf0 3 n3 (by decide +kernel))) (ce_mul ce_int (ce_var C.toCf0 3 n3 (by decide +kernel)))) (ce_fdT C.toCf0 0 n0 v0)) ce_int)) (cs_cons (c1_ret (ce_mod (ce_fdiv (ce_var C.toCf0 3 n3 (by decide +kernel)) ce_int) (ce_var C.toCf0 1 n1 (by decide +kernel)))) cs_nil)))))
theorem ok_qtake {P : Program} {w : World} {K : PySem.W.Frag} {mg : Str → Option Value} {base : Heap} (E : Env K mg) : Gv P w K mg base (0 + 1) "_law_take" [] (spU K mg uTake) := by
  obtain ⟨f, fd, F, hmg⟩ := E.d_qtake
  exact Gv.of F hmg (fo_qtake E F) (F.bindsN fun _ _ _ _ _ _ us hl => match us, hl with | [_, _], _ => rfl) .nil
theorem sc_qword : FnScope ["_law_feed_here", "_law_word_here", "_law_k"] ["_law_feed_here"] (defScope (top 24)) := ⟨rfl, rfl, rfl, by decide +kernel, rfl, by decide +kernel, by decide +kernel⟩
theorem fo_qword {P : Program} {w : World} {K : PySem.W.Frag} {mg : Str → Option Value} {base : Heap} (E : Env K mg) {f : Addr} {fd : FuncData} (F : FunD K "_law_word" "_law_word" (defArgs (top 24)) (defBody (top 24)) (defScope (top 24)) [] [] f fd) : FnOk P w K mg base (L2.CX P w) (1 + 1) f fd ["_law_feed_here"] (spU K mg u_qword) := by
  refine fn_u (N := ["_law_feed_here", "_law_word_here", "_law_k"]) (ps := ["_law_feed_here"]) (k := 1) F sc_qword (b := b_qword) (by decide) fun X W h => ?_
  have C := h.cf
  have hb_range : X.mg "range" = none := by rw [h.mg]; exact E.b_range
  have c_qtake := (ok_qtake (P := P) (w := w) (base := base) E).u h (by omega)
  have n0 : (["_law_feed_here", "_law_word_here", "_law_k"] : List Str)[0]? = some ("_law_feed_here" : Str) := rfl
  have v0 : visB (defScope (top 24)) "_law_feed_here" = true := by decide +kernel
  have s0 : Sto X (defScope (top 24)) "_law_feed_here" := sto_c h.fn (by decide +kernel)
  have n1 : (["_law_feed_here", "_law_word_here", "_law_k"] : List Str)[1]? = some ("_law_word_here" : Str) := rfl
  have v1 : visB (defScope (top 24)) "_law_word_here" = true := by decide +kernel
  have s1 : Sto X (defScope (top 24)) "_law_word_here" := sto_c h.fn (by decide +kernel)
  have n2 : (["_law_feed_here", "_law_word_here", "_law_k"] : List Str)[2]? = some ("_law_k" : Str) := rfl
  have v2 : visB (defScope (top 24)) "_law_k" = true := by decide +kernel
  have s2 : Sto X (defScope (top 24)) "_law_k" := sto_c h.fn (by decide +kernel)
  unfold b_qword
  exact (cs_cons (c1_set C.toCf0 1 n1 s1 ce_str) (cs_cons (c1_for C [2] (ci_range1 C.toCf0 (by decide +kernel) hb_range (ce_add ce_int (ce_x (cx_callC C.toCf0 0 c_qtake (by decide +kernel) (fun _ _ => .nil) (ca_cons (ce_var C.toCf0 0 n0 (by decide +kernel)) (ca_cons ce_int ca_nil)))))) (cg_name C.toCf0 2 n2 s2) (cs_cons (c1_set C.toCf0 1 n1 s1 (ce_add (ce_var C.toCf0 1 n1 (by decide +kernel)) (ce_ixS ce_str (ce_x (cx_callC C.toCf0 0 c_qtake (by decide +kernel) (fun _ _ => .nil) (ca_cons (ce_var C.toCf0 0 n0 (by decide +kernel)) (ca_cons ce_int ca_nil))))))) cs_nil)) (cs_cons (c1_ret (ce_var C.toCf0 1 n1 (by decide +kernel))) cs_nil)))
theorem ok_qword {P : Program} {w : World} {K : PySem.W.Frag} {mg : Str → Option Value} {base : Heap} (E : Env K mg) : Gv P w K mg base (1 + 1) "_law_word" [] (spU K mg u_qword) := by
  obtain ⟨f, fd, F, hmg⟩ := E.d_qword
  exact Gv.of F hmg (fo_qword E F) (F.bindsN fun _ _ _ _ _ _ us hl => match us, hl with | [_], _ => rfl) .nil
theorem sc_qnames : FnScope ["_law_feed_here", "_law_many", "_law_letters", "_law_way", "_law_base", "_law_at", "_law_names_here", "_law_k", "_law_word_here", "_law_turn", "_law_name"] ["_law_feed_here", "_law_many"] (defScope (top 25)) := ⟨rfl, rfl, rfl, by decide +kernel, rfl, by decide +kernel, by decide +kernel⟩
theorem fo_qnames {P : Program} {w : World} {K : PySem.W.Frag} {mg : Str → Option Value} {base : Heap} (E : Env K mg) {f : Addr} {fd : FuncData} (F : FunD K "_law_names" "_law_names" (defArgs (top 25)) (defBody (top 25)) (defScope (top 25)) [] [] f fd) : FnOk P w K mg base (L2.CX P w) (2 + 1) f fd ["_law_feed_here", "_law_many"] (spU K mg u_qnames) := by
  refine fn_u (N := ["_law_feed_here", "_law_many", "_law_letters", "_law_way", "_law_base", "_law_at", "_law_names_here", "_law_k", "_law_word_here", "_law_turn", "_law_name"]) (ps := ["_law_feed_here", "_law_many"]) (k := 2) F sc_qnames (b := b_qnames) (by decide) fun X W h => ?_
  have C := h.cf
  have hb_len : X.mg "len" = none := by rw [h.mg]; exact E.b_len
  have hb_range : X.mg "range" = none := by rw [h.mg]; exact E.b_range
  have c_qtake := (ok_qtake (P := P) (w := w) (base := base) E).u h (by omega)
  have c_qword := (ok_qword (P := P) (w := w) (base := base) E).u h (by omega)
  have n0 : (["_law_feed_here", "_law_many", "_law_letters", "_law_way", "_law_base", "_law_at", "_law_names_here", "_law_k", "_law_word_here", "_law_turn", "_law_name"] : List Str)[0]? = some ("_law_feed_here" : Str) := rfl
  have v0 : visB (defScope (top 25)) "_law_feed_here" = true := by decide +kernel
  have s0 : Sto X (defScope (top 25)) "_law_feed_here" := sto_c h.fn (by decide +kernel)
  have n1 : (["_law_feed_here", "_law_many", "_law_letters", "_law_way", "_law_base", "_law_at", "_law_names_here", "_law_k", "_law_word_here", "_law_turn", "_law_name"] : List Str)[1]? = some ("_law_many" : Str) := rfl
  have v1 : visB (defScope (top 25)) "_law_many" = true := by decide +kernel
  have s1 : Sto X (defScope (top 25)) "_law_many" := sto_c h.fn (by decide +kernel)
  have n2 : (["_law_feed_here", "_law_many", "_law_letters", "_law_way", "_law_base", "_law_at", "_law_names_here", "_law_k", "_law_word_here", "_law_turn", "_law_name"] : List Str)[2]? = some ("_law_letters" : Str) := rfl
  have v2 : visB (defScope (top 25)) "_law_letters" = true := by decide +kernel
  have s2 : Sto X (defScope (top 25)) "_law_letters" := sto_c h.fn (by decide +kernel)
  have n3 : (["_law_feed_here", "_law_many", "_law_letters", "_law_way", "_law_base", "_law_at", "_law_names_here", "_law_k", "_law_word_here", "_law_turn", "_law_name"] : List Str)[3]? = some ("_law_way" : Str) := rfl
  have v3 : visB (defScope (top 25)) "_law_way" = true := by decide +kernel
  have s3 : Sto X (defScope (top 25)) "_law_way" := sto_c h.fn (by decide +kernel)
  have n4 : (["_law_feed_here", "_law_many", "_law_letters", "_law_way", "_law_base", "_law_at", "_law_names_here", "_law_k", "_law_word_here", "_law_turn", "_law_name"] : List Str)[4]? = some ("_law_base" : Str) := rfl
  have v4 : visB (defScope (top 25)) "_law_base" = true := by decide +kernel
  have s4 : Sto X (defScope (top 25)) "_law_base" := sto_c h.fn (by decide +kernel)
  have n5 : (["_law_feed_here", "_law_many", "_law_letters", "_law_way", "_law_base", "_law_at", "_law_names_here", "_law_k", "_law_word_here", "_law_turn", "_law_name"] : List Str)[5]? = some ("_law_at" : Str) := rfl
  have v5 : visB (defScope (top 25)) "_law_at" = true := by decide +kernel
  have s5 : Sto X (defScope (top 25)) "_law_at" := sto_c h.fn (by decide +kernel)
  have n6 : (["_law_feed_here", "_law_many", "_law_letters", "_law_way", "_law_base", "_law_at", "_law_names_here", "_law_k", "_law_word_here", "_law_turn", "_law_name"] : List Str)[6]? = some ("_law_names_here" : Str) := rfl
  have v6 : visB (defScope (top 25)) "_law_names_here" = true := by decide +kernel
  have s6 : Sto X (defScope (top 25)) "_law_names_here" := sto_c h.fn (by decide +kernel)
  have n7 : (["_law_feed_here", "_law_many", "_law_letters", "_law_way", "_law_base", "_law_at", "_law_names_here", "_law_k", "_law_word_here", "_law_turn", "_law_name"] : List Str)[7]? = some ("_law_k" : Str) := rfl
  have v7 : visB (defScope (top 25)) "_law_k" = true := by decide +kernel
  have s7 : Sto X (defScope (top 25)) "_law_k" := sto_c h.fn (by decide +kernel)
  have n8 : (["_law_feed_here", "_law_many", "_law_letters", "_law_way", "_law_base", "_law_at", "_law_names_here", "_law_k", "_law_word_here", "_law_turn", "_law_name"] : List Str)[8]? = some ("_law_word_here" : Str) := rfl
  have v8 : visB (defScope (top 25)) "_law_word_here" = true := by decide +kernel
  have s8 : Sto X (defScope (top 25)) "_law_word_here" := sto_c h.fn (by decide +kernel)
  have n9 : (["_law_feed_here", "_law_many", "_law_letters", "_law_way", "_law_base", "_law_at", "_law_names_here", "_law_k", "_law_word_here", "_law_turn", "_law_name"] : List Str)[9]? = some ("_law_turn" : Str) := rfl
  have v9 : visB (defScope (top 25)) "_law_turn" = true := by decide +kernel
  have s9 : Sto X (defScope (top 25)) "_law_turn" := sto_c h.fn (by decide +kernel)
  have n10 : (["_law_feed_here", "_law_many", "_law_letters", "_law_way", "_law_base", "_law_at", "_law_names_here", "_law_k", "_law_word_here", "_law_turn", "_law_name"] : List Str)[10]? = some ("_law_name" : Str) := rfl
  have v10 : visB (defScope (top 25)) "_law_name" = true := by decide +kernel
  have s10 : Sto X (defScope (top 25)) "_law_name" := sto_c h.fn (by decide +kernel)
  unfold b_qnames
  exact (cs_cons (c1_set C.toCf0 2 n2 s2 ce_str) (cs_cons (c1_set C.toCf0 3 n3 s3 (ce_x (cx_callC C.toCf0 0 c_qtake (by decide +kernel) (fun _ _ => .nil) (ca_cons (ce_var C.toCf0 0 n0 (by decide +kernel)) (ca_cons ce_int ca_nil))))) (cs_cons (c1_set C.toCf0 4 n4 s4 (ce_x (cx_callC C.toCf0 0 c_qword (by decide +kernel) (fun _ _ => .nil) (ca_cons (ce_var C.toCf0 0 n0 (by decide +kernel)) ca_nil)))) (cs_cons (c1_set C.toCf0 5 n5 s5 (ce_x (cx_callC C.toCf0 0 c_qtake (by decide +kernel) (fun _ _ => .nil) (ca_cons (ce_var C.toCf0 0 n0 (by decide +kernel)) (ca_cons (ce_len C.toCf0 (by decide +kernel) hb_len (ca_cons (ce_var C.toCf0 4 n4 (by decide +kernel)) ca_nil)) ca_nil))))) (cs_cons (c1_setX C.toCf0 6 n6 s6 (cx_c (cc_l (cn_lst ca_nil)))) (cs_cons (c1_for C [7, 8, 9, 10] (ci_range1 C.toCf0 (by decide +kernel) hb_range (ce_var C.toCf0 1 n1 (by decide +kernel))) (cg_name C.toCf0 7 n7 s7) (cs_cons (c1_set C.toCf0 8 n8 s8 (ce_add (ce_add (ce_cutS (ce_var C.toCf0 4 n4 (by decide +kernel)) co_none (co_some (ce_var C.toCf0 5 n5 (by decide +kernel)))) (ce_ixS (ce_var C.toCf0 2 n2 (by decide +kernel)) (ce_mod (ce_var C.toCf0 7 n7 (by decide +kernel)) ce_int))) (ce_cutS (ce_var C.toCf0 4 n4 (by decide +kernel)) (co_some (ce_add (ce_var C.toCf0 5 n5 (by decide +kernel)) ce_int)) co_none))) (cs_cons (c1_if (ct_cmp (ce_eq C.toCf0 (ce_var C.toCf0 3 n3 (by decide +kernel)) ce_int)) (cs_cons (c1_set C.toCf0 8 n8 s8 (ce_x (cx_callC C.toCf0 0 c_qword (by decide +kernel) (fun _ _ => .nil) (ca_cons (ce_var C.toCf0 0 n0 (by decide +kernel)) ca_nil)))) cs_nil) cs_nil) (cs_cons (c1_set C.toCf0 9 n9 s9 ce_int) (cs_cons (c1_set C.toCf0 10 n10 s10 (ce_frz (ce_var C.toCf0 8 n8 (by decide +kernel)))) (cs_cons (c1_while C.toCf0 [] (fun _ => 1000000) (ct_w (cw_or (ct_cmp (ce_inB C.toCf0 (ce_var C.toCf0 10 n10 (by decide +kernel)) (ce_var C.toCf0 6 n6 (by decide +kernel)))) (cw_or1 (ct_cmp (ce_inB C.toCf0 (ce_var C.toCf0 10 n10 (by decide +kernel)) (ce_tup (ca_cons ce_str (ca_cons ce_str ca_nil)))))))) (cs_cons (c1_set C.toCf0 10 n10 s10 (ce_frz (ce_cutS (ce_add (ce_add (ce_ixS (ce_var C.toCf0 2 n2 (by decide +kernel)) (ce_fdiv (ce_var C.toCf0 9 n9 (by decide +kernel)) ce_int)) (ce_ixS (ce_var C.toCf0 2 n2 (by decide +kernel)) (ce_mod (ce_var C.toCf0 9 n9 (by decide +kernel)) ce_int))) (ce_var C.toCf0 8 n8 (by decide +kernel))) co_none (co_some ce_int)))) (cs_cons (c1_set C.toCf0 9 n9 s9 (ce_add (ce_var C.toCf0 9 n9 (by decide +kernel)) ce_int)) cs_nil))) (cs_cons (c1_expr (ce_append C.toCf0 6 n6 (by decide +kernel) (ce_var C.toCf0 10 n10 (by decide +kernel)))) cs_nil))))))) (cs_cons (c1_retO C.toCf0 6 n6 (by decide +kernel)) cs_nil)))))))
theorem ok_qnames {P : Program} {w : World} {K : PySem.W.Frag} {mg : Str → Option Value} {base : Heap} (E : Env K mg) : Gv P w K mg base (2 + 1) "_law_names" [] (spU K mg u_qnames) := by
  obtain ⟨f, fd, F, hmg⟩ := E.d_qnames
  exact Gv.of F hmg (fo_qnames E F) (F.bindsN fun _ _ _ _ _ _ us hl => match us, hl with | [_, _], _ => rfl) .nil
def b_qprice_k80 : DS := (bSeq (bSet 1 (eX (xCallC uTake 0 [] (dAc (dVar 0) (dAc (dC (.int 4)) dA0))))) (bSeq (bIf (dTst (dCmp kEq (dVar 1) (dC (.int 0)))) (bSeq (bRet (dI kPow (dC (.int 10)) (dC (.int 30)))) bNil) bNil) (bSeq (bIf (dTst (dCmp (kI fun i j => decide (i < j)) (dVar 1) (dC (.int 3)))) (bSeq (bRet (dAdd (dC (.int 1)) (eX (xCallC uTake 0 [] (dAc (dVar 0) (dAc (dC (.int 12)) dA0)))))) bNil) bNil) (bSeq (bSet 2 (dC (.int 0))) (bSeq (bFor [3] (gN 3) (iRange1 (dC (.int 5))) (bSeq (bSet 2 (dAdd (dI kMul (dVar 2) (dI kPow (dC (.int 10)) (dC (.int 6)))) (eX (xCallC uTake 0 [] (dAc (dVar 0) (dAc (dI kPow (dC (.int 10)) (dC (.int 6))) dA0)))))) bNil)) (bSeq (bRet (dAdd (dC (.int 1)) (dVar 2))) bNil))))))
def u_qprice_k80 : List Ar → R (Rs × List Sl) := runB 4 1 b_qprice_k80
theorem sc_qprice : FnScope ["_law_feed_here", "_law_way", "_law_found", "_law_k"] ["_law_feed_here"] (defScope (top 26)) := ⟨rfl, rfl, rfl, by decide +kernel, rfl, by decide +kernel, by decide +kernel⟩
theorem fo_qprice {P : Program} {w : World} {K : PySem.W.Frag} {mg : Str → Option Value} {base : Heap} (E : Env K mg) {f : Addr} {fd : FuncData} (F : FunD K "_law_price" "_law_price" (defArgs (top 26)) (defBody (top 26)) (defScope (top 26)) [] [] f fd) : FnOk P w K mg base (L2.CX P w) (1 + 1) f fd ["_law_feed_here"] (spU K mg u_qprice_k80) := by
  refine fn_u (N := ["_law_feed_here", "_law_way", "_law_found", "_law_k"]) (ps := ["_law_feed_here"]) (k := 1) F sc_qprice (b := b_qprice_k80) (by decide) fun X W h => ?_
  have C := h.cf
  have hb_range : X.mg "range" = none := by rw [h.mg]; exact E.b_range
  have c_qtake := (ok_qtake (P := P) (w := w) (base := base) E).u h (by omega)
  have n0 : (["_law_feed_here", "_law_way", "_law_found", "_law_k"] : List Str)[0]? = some ("_law_feed_here" : Str) := rfl
  have v0 : visB (defScope (top 26)) "_law_feed_here" = true := by decide +kernel
  have s0 : Sto X (defScope (top 26)) "_law_feed_here" := sto_c h.fn (by decide +kernel)
  have n1 : (["_law_feed_here", "_law_way", "_law_found", "_law_k"] : List Str)[1]? = some ("_law_way" : Str) := rfl
  have v1 : visB (defScope (top 26)) "_law_way" = true := by decide +kernel
  have s1 : Sto X (defScope (top 26)) "_law_way" := sto_c h.fn (by decide +kernel)
  have n2 : (["_law_feed_here", "_law_way", "_law_found", "_law_k"] : List Str)[2]? = some ("_law_found" : Str) := rfl
  have v2 : visB (defScope (top 26)) "_law_found" = true := by decide +kernel
  have s2 : Sto X (defScope (top 26)) "_law_found" := sto_c h.fn (by decide +kernel)
  have n3 : (["_law_feed_here", "_law_way", "_law_found", "_law_k"] : List Str)[3]? = some ("_law_k" : Str) := rfl
  have v3 : visB (defScope (top 26)) "_law_k" = true := by decide +kernel
  have s3 : Sto X (defScope (top 26)) "_law_k" := sto_c h.fn (by decide +kernel)
  unfold b_qprice_k80
  exact (cs_cons (c1_set C.toCf0 1 n1 s1 (ce_x (cx_callC C.toCf0 0 c_qtake (by decide +kernel) (fun _ _ => .nil) (ca_cons (ce_var C.toCf0 0 n0 (by decide +kernel)) (ca_cons ce_int ca_nil))))) (cs_cons (c1_if (ct_cmp (ce_eq C.toCf0 (ce_var C.toCf0 1 n1 (by decide +kernel)) ce_int)) (cs_cons (c1_ret (ce_pow ce_int ce_int)) cs_nil) cs_nil) (cs_cons (c1_if (ct_cmp (ce_lt (ce_var C.toCf0 1 n1 (by decide +kernel)) ce_int)) (cs_cons (c1_ret (ce_add ce_int (ce_x (cx_callC C.toCf0 0 c_qtake (by decide +kernel) (fun _ _ => .nil) (ca_cons (ce_var C.toCf0 0 n0 (by decide +kernel)) (ca_cons ce_int ca_nil)))))) cs_nil) cs_nil) (cs_cons (c1_set C.toCf0 2 n2 s2 ce_int) (cs_cons (c1_for C [3] (ci_range1 C.toCf0 (by decide +kernel) hb_range ce_int) (cg_name C.toCf0 3 n3 s3) (cs_cons (c1_set C.toCf0 2 n2 s2 (ce_add (ce_mul (ce_var C.toCf0 2 n2 (by decide +kernel)) (ce_pow ce_int ce_int)) (ce_x (cx_callC C.toCf0 0 c_qtake (by decide +kernel) (fun _ _ => .nil) (ca_cons (ce_var C.toCf0 0 n0 (by decide +kernel)) (ca_cons (ce_pow ce_int ce_int) ca_nil)))))) cs_nil)) (cs_cons (c1_ret (ce_add ce_int (ce_var C.toCf0 2 n2 (by decide +kernel)))) cs_nil))))))
theorem ok_qprice {P : Program} {w : World} {K : PySem.W.Frag} {mg : Str → Option Value} {base : Heap} (E : Env K mg) : Gv P w K mg base (1 + 1) "_law_price" [] (spU K mg u_qprice_k80) := by
  obtain ⟨f, fd, F, hmg⟩ := E.d_qprice
  exact Gv.of F hmg (fo_qprice E F) (F.bindsN fun _ _ _ _ _ _ us hl => match us, hl with | [_], _ => rfl) .nil
def b_qnamed : DS := (bSeq (bSet 1 (dAdd (dC (.int 1)) (eX (xCallC uTake 0 [] (dAc (dVar 0) (dAc (dC (.int 40)) dA0)))))) (bSeq (bSet 2 (eX (xCallC u_qnames 0 [] (dAc (dVar 0) (dAc (dVar 1) dA0))))) (bSeq (bSet 3 (eX (xCallC uTake 0 [] (dAc (dVar 0) (dAc (dC (.int 3)) dA0))))) (bSeq (bSetX 4 (xC (nL (dLst dA0)))) (bSeq (bFor [5, 6, 7] (gN 5) (iRange1 (dVar 1)) (bSeq (bSetX 6 (xC (nL (dLst dA0)))) (bSeq (bIf (dTst (dCmp kEq (dVar 3) (dC (.int 0)))) (bSeq (bSetC 6 (nL (nComp [8] (gN 8) (iRange1 (dVar 5)) (dTst (dCmp kEq (eX (xCallC uTake 0 [] (dAc (dVar 0) (dAc (dC (.int 2)) dA0)))) (dC (.int 1)))) (dFrz (dVar 8))))) bNil) bNil) (bSeq (bFor [7] (gN 7) (iRange1 (dI kMul (eX (xCallC uTake 0 [] (dAc (dVar 0) (dAc (dC (.int 7)) dA0)))) (dB kInt (dAc (dCmp (kI fun i j => decide (j < i)) (dVar 5) (dC (.int 0))) dA0)))) (bSeq (bSet 8 (eX (xCallC uTake 0 [] (dAc (dVar 0) (dAc (dVar 5) dA0))))) (bSeq (bIf (dTst (dCmp kNinB (dVar 8) (dVar 6))) (bSeq (bExpr (dLm 6 qInsert (dAc (eX (xCallC uTake 0 [] (dAc (dVar 0) (dAc (dAdd (dB kLen (dAc (dVar 6) dA0)) (dC (.int 1))) dA0)))) (dAc (dFrz (dVar 8)) dA0)))) bNil) bNil) bNil))) (bFrz 6 (bSeq (bExpr (dLm 4 qAppend (dAc (dFrz (dTup (dAc (dFrz (dIxB (dVar 2) (dVar 5))) (dAc (eX (xCallC u_qprice_k80 0 [] (dAc (dVar 0) dA0))) (dAc (dB kTuple (dAc (dOfN (nComp [8] (gN 8) (iSeq (dVar 6)) tYes (dFrz (dIxB (dVar 2) (dVar 8))))) dA0)) dA0))))) dA0))) bNil)))))) (bSeq (bRetO 4) bNil))))))
def u_qnamed : List Ar → R (Rs × List Sl) := runB 9 1 b_qnamed
theorem sc_qnamed : FnScope ["_law_feed_here", "_law_many", "_law_names_here", "_law_way", "_law_named_here", "_law_make", "_law_row", "_law_k", "_law_elder"] ["_law_feed_here"] (defScope (top 27)) := ⟨rfl, rfl, rfl, by decide +kernel, rfl, by decide +kernel, by decide +kernel⟩
theorem fo_qnamed {P : Program} {w : World} {K : PySem.W.Frag} {mg : Str → Option Value} {base : Heap} (E : Env K mg) {f : Addr} {fd : FuncData} (F : FunD K "_law_named" "_law_named" (defArgs (top 27)) (defBody (top 27)) (defScope (top 27)) [] [] f fd) : FnOk P w K mg base (L2.CX P w) (3 + 1) f fd ["_law_feed_here"] (spU K mg u_qnamed) := by
  refine fn_u (N := ["_law_feed_here", "_law_many", "_law_names_here", "_law_way", "_law_named_here", "_law_make", "_law_row", "_law_k", "_law_elder"]) (ps := ["_law_feed_here"]) (k := 3) F sc_qnamed (b := b_qnamed) (by decide) fun X W h => ?_
  have C := h.cf
  have hb_range : X.mg "range" = none := by rw [h.mg]; exact E.b_range
  have hb_int : X.mg "int" = none := by rw [h.mg]; exact E.b_int
  have hb_len : X.mg "len" = none := by rw [h.mg]; exact E.b_len
  have hb_tuple : X.mg "tuple" = none := by rw [h.mg]; exact E.b_tuple
  have c_qtake := (ok_qtake (P := P) (w := w) (base := base) E).u h (by omega)
  have c_qnames := (ok_qnames (P := P) (w := w) (base := base) E).u h (by omega)
  have c_qprice := (ok_qprice (P := P) (w := w) (base := base) E).u h (by omega)
  have n0 : (["_law_feed_here", "_law_many", "_law_names_here", "_law_way", "_law_named_here", "_law_make", "_law_row", "_law_k", "_law_elder"] : List Str)[0]? = some ("_law_feed_here" : Str) := rfl
  have v0 : visB (defScope (top 27)) "_law_feed_here" = true := by decide +kernel
  have s0 : Sto X (defScope (top 27)) "_law_feed_here" := sto_c h.fn (by decide +kernel)
  have n1 : (["_law_feed_here", "_law_many", "_law_names_here", "_law_way", "_law_named_here", "_law_make", "_law_row", "_law_k", "_law_elder"] : List Str)[1]? = some ("_law_many" : Str) := rfl
  have v1 : visB (defScope (top 27)) "_law_many" = true := by decide +kernel
  have s1 : Sto X (defScope (top 27)) "_law_many" := sto_c h.fn (by decide +kernel)
  have n2 : (["_law_feed_here", "_law_many", "_law_names_here", "_law_way", "_law_named_here", "_law_make", "_law_row", "_law_k", "_law_elder"] : List Str)[2]? = some ("_law_names_here" : Str) := rfl
  have v2 : visB (defScope (top 27)) "_law_names_here" = true := by decide +kernel
  have s2 : Sto X (defScope (top 27)) "_law_names_here" := sto_c h.fn (by decide +kernel)
  have n3 : (["_law_feed_here", "_law_many", "_law_names_here", "_law_way", "_law_named_here", "_law_make", "_law_row", "_law_k", "_law_elder"] : List Str)[3]? = some ("_law_way" : Str) := rfl
  have v3 : visB (defScope (top 27)) "_law_way" = true := by decide +kernel
  have s3 : Sto X (defScope (top 27)) "_law_way" := sto_c h.fn (by decide +kernel)
  have n4 : (["_law_feed_here", "_law_many", "_law_names_here", "_law_way", "_law_named_here", "_law_make", "_law_row", "_law_k", "_law_elder"] : List Str)[4]? = some ("_law_named_here" : Str) := rfl
  have v4 : visB (defScope (top 27)) "_law_named_here" = true := by decide +kernel
  have s4 : Sto X (defScope (top 27)) "_law_named_here" := sto_c h.fn (by decide +kernel)
  have n5 : (["_law_feed_here", "_law_many", "_law_names_here", "_law_way", "_law_named_here", "_law_make", "_law_row", "_law_k", "_law_elder"] : List Str)[5]? = some ("_law_make" : Str) := rfl
  have v5 : visB (defScope (top 27)) "_law_make" = true := by decide +kernel
  have s5 : Sto X (defScope (top 27)) "_law_make" := sto_c h.fn (by decide +kernel)
  have n6 : (["_law_feed_here", "_law_many", "_law_names_here", "_law_way", "_law_named_here", "_law_make", "_law_row", "_law_k", "_law_elder"] : List Str)[6]? = some ("_law_row" : Str) := rfl
  have v6 : visB (defScope (top 27)) "_law_row" = true := by decide +kernel
  have s6 : Sto X (defScope (top 27)) "_law_row" := sto_c h.fn (by decide +kernel)
  have n7 : (["_law_feed_here", "_law_many", "_law_names_here", "_law_way", "_law_named_here", "_law_make", "_law_row", "_law_k", "_law_elder"] : List Str)[7]? = some ("_law_k" : Str) := rfl
  have v7 : visB (defScope (top 27)) "_law_k" = true := by decide +kernel
  have s7 : Sto X (defScope (top 27)) "_law_k" := sto_c h.fn (by decide +kernel)
  have n8 : (["_law_feed_here", "_law_many", "_law_names_here", "_law_way", "_law_named_here", "_law_make", "_law_row", "_law_k", "_law_elder"] : List Str)[8]? = some ("_law_elder" : Str) := rfl
  have v8 : visB (defScope (top 27)) "_law_elder" = true := by decide +kernel
  have s8 : Sto X (defScope (top 27)) "_law_elder" := sto_c h.fn (by decide +kernel)
  unfold b_qnamed
  exact (cs_cons (c1_set C.toCf0 1 n1 s1 (ce_add ce_int (ce_x (cx_callC C.toCf0 0 c_qtake (by decide +kernel) (fun _ _ => .nil) (ca_cons (ce_var C.toCf0 0 n0 (by decide +kernel)) (ca_cons ce_int ca_nil)))))) (cs_cons (c1_set C.toCf0 2 n2 s2 (ce_x (cx_callC C.toCf0 0 c_qnames (by decide +kernel) (fun _ _ => .nil) (ca_cons (ce_var C.toCf0 0 n0 (by decide +kernel)) (ca_cons (ce_var C.toCf0 1 n1 (by decide +kernel)) ca_nil))))) (cs_cons (c1_set C.toCf0 3 n3 s3 (ce_x (cx_callC C.toCf0 0 c_qtake (by decide +kernel) (fun _ _ => .nil) (ca_cons (ce_var C.toCf0 0 n0 (by decide +kernel)) (ca_cons ce_int ca_nil))))) (cs_cons (c1_setX C.toCf0 4 n4 s4 (cx_c (cc_l (cn_lst ca_nil)))) (cs_cons (c1_for C [5, 6, 7] (ci_range1 C.toCf0 (by decide +kernel) hb_range (ce_var C.toCf0 1 n1 (by decide +kernel))) (cg_name C.toCf0 5 n5 s5) (cs_cons (c1_setX C.toCf0 6 n6 s6 (cx_c (cc_l (cn_lst ca_nil)))) (cs_cons (c1_if (ct_cmp (ce_eq C.toCf0 (ce_var C.toCf0 3 n3 (by decide +kernel)) ce_int)) (cs_cons (c1_lcC C rfl 6 n6 (by decide +kernel) (CompU.mk (own := [("_law_elder", 8)]) (ci_range1 C.toCf0 (by decide +kernel) hb_range (ce_var C.toCf0 5 n5 (by decide +kernel))) (by decide +kernel) (fun _ _ _ _ _ => (cg_name (Cf.blk C).toCf0 8 n8 (sto_l (by decide +kernel)))) (fun _ _ _ _ _ => (cts_one (ct_cmp (ce_eq (Cf.blk C).toCf0 (ce_x (cx_callC (Cf.blk C).toCf0 0 c_qtake.blk (by decide +kernel) (fun _ _ => .nil) (ca_cons (ce_var (Cf.blk C).toCf0 0 n0 (by decide +kernel)) (ca_cons ce_int ca_nil)))) ce_int)))) (fun _ _ _ _ _ => (ce_frz (ce_var (Cf.blk C).toCf0 8 n8 (by decide +kernel)))) (by decide) (fun _ => rfl))) cs_nil) cs_nil) (cs_cons (c1_for C [7] (ci_range1 C.toCf0 (by decide +kernel) hb_range (ce_mul (ce_x (cx_callC C.toCf0 0 c_qtake (by decide +kernel) (fun _ _ => .nil) (ca_cons (ce_var C.toCf0 0 n0 (by decide +kernel)) (ca_cons ce_int ca_nil)))) (ce_intc C.toCf0 (by decide +kernel) hb_int (ca_cons (ce_gt (ce_var C.toCf0 5 n5 (by decide +kernel)) ce_int) ca_nil)))) (cg_name C.toCf0 7 n7 s7) (cs_cons (c1_set C.toCf0 8 n8 s8 (ce_x (cx_callC C.toCf0 0 c_qtake (by decide +kernel) (fun _ _ => .nil) (ca_cons (ce_var C.toCf0 0 n0 (by decide +kernel)) (ca_cons (ce_var C.toCf0 5 n5 (by decide +kernel)) ca_nil))))) (cs_cons (c1_if (ct_cmp (ce_notinB C.toCf0 (ce_var C.toCf0 8 n8 (by decide +kernel)) (ce_var C.toCf0 6 n6 (by decide +kernel)))) (cs_cons (c1_expr (ce_insert C.toCf0 6 n6 (by decide +kernel) (ce_x (cx_callC C.toCf0 0 c_qtake (by decide +kernel) (fun _ _ => .nil) (ca_cons (ce_var C.toCf0 0 n0 (by decide +kernel)) (ca_cons (ce_add (ce_len C.toCf0 (by decide +kernel) hb_len (ca_cons (ce_var C.toCf0 6 n6 (by decide +kernel)) ca_nil)) ce_int) ca_nil)))) (ce_var C.toCf0 8 n8 (by decide +kernel)))) cs_nil) cs_nil) cs_nil))) (cs_frz 6 (cs_cons (c1_expr (ce_append C.toCf0 4 n4 (by decide +kernel) (ce_tup (ca_cons (ce_frz (ce_ixB C.toCf0 (ce_var C.toCf0 2 n2 (by decide +kernel)) (ce_var C.toCf0 5 n5 (by decide +kernel)))) (ca_cons (ce_x (cx_callC C.toCf0 0 c_qprice (by decide +kernel) (fun _ _ => .nil) (ca_cons (ce_var C.toCf0 0 n0 (by decide +kernel)) ca_nil))) (ca_cons (ce_tuple C.toCf0 (by decide +kernel) hb_tuple (ca_cons (ce_ofN (cn_comp C (CompU.mk (own := [("_law_elder", 8)]) (ci_seq (ce_var C.toCf0 6 n6 (by decide +kernel))) (by decide +kernel) (fun _ _ _ _ _ => (cg_name (Cf.blk C).toCf0 8 n8 (sto_l (by decide +kernel)))) (fun _ _ _ _ _ => cts_nil) (fun _ _ _ _ _ => (ce_frz (ce_ixB (Cf.blk C).toCf0 (ce_var (Cf.blk C).toCf0 2 n2 (by decide +kernel)) (ce_var (Cf.blk C).toCf0 8 n8 (by decide +kernel))))) (by decide) (fun _ => rfl)))) ca_nil)) ca_nil)))))) cs_nil)))))) (cs_cons (c1_retO C.toCf0 4 n4 (by decide +kernel)) cs_nil))))))
theorem ok_qnamed {P : Program} {w : World} {K : PySem.W.Frag} {mg : Str → Option Value} {base : Heap} (E : Env K mg) : Gv P w K mg base (3 + 1) "_law_named" [] (spU K mg u_qnamed) := by
  obtain ⟨f, fd, F, hmg⟩ := E.d_qnamed
  exact Gv.of F hmg (fo_qnamed E F) (F.bindsN fun _ _ _ _ _ _ us hl => match us, hl with | [_], _ => rfl) .nil
theorem sc_qfeed : FnScope ["_law_script"] ["_law_script"] (defScope (top 22)) := ⟨rfl, rfl, rfl, by decide +kernel, rfl, by decide +kernel, by decide +kernel⟩
theorem fo_qfeed {P : Program} {w : World} {K : PySem.W.Frag} {mg : Str → Option Value} {base : Heap} (E : Env K mg) {f : Addr} {fd : FuncData} (F : FunD K "_law_feed" "_law_feed" (defArgs (top 22)) (defBody (top 22)) (defScope (top 22)) [] [] f fd) : FnOk P w K mg base (L2.CX P w) (0 + 1) f fd ["_law_script"] (spU K mg uFeed) := by
  refine fn_u (N := ["_law_script"]) (ps := ["_law_script"]) (k := 0) F sc_qfeed (b := bFeed) (by decide) fun X W h => ?_
  have C := h.cf
  have hb_list : X.mg "list" = none := by rw [h.mg]; exact E.b_list
  have n0 : (["_law_script"] : List Str)[0]? = some ("_law_script" : Str) := rfl
  have v0 : visB (defScope (top 22)) "_law_script" = true := by decide +kernel
  have s0 : Sto X (defScope (top 22)) "_law_script" := sto_c h.fn (by decide +kernel)
  unfold bFeed
  exact (cs_cons (c1_retC (cc_feed C.toCf0 0 n0 v0 (by decide +kernel) hb_list)) cs_nil)
theorem ok_qfeed {P : Program} {w : World} {K : PySem.W.Frag} {mg : Str → Option Value} {base : Heap} (E : Env K mg) : Gv P w K mg base (0 + 1) "_law_feed" [] (spU K mg uFeed) := by
  obtain ⟨f, fd, F, hmg⟩ := E.d_qfeed
  exact Gv.of F hmg (fo_qfeed E F) (F.bindsN fun _ _ _ _ _ _ us hl => match us, hl with | [_], _ => rfl) .nil
def b_qtext_k80 : DS := (bSeq (bSetX 1 (xC (nL (dLst dA0)))) (bSeq (bFor [2, 3, 4, 5, 6] (gT3 (gN 2) (gN 3) (gN 4)) (iSeq (dVar 0)) (bSeq (bSet 5 (dAdd (dAdd (dVar 2) (dC (.str " "))) (dB kStr (dAc (dVar 3) dA0)))) (bSeq (bFor [6] (gN 6) (iSeq (dVar 4)) (bSeq (bSet 5 (dAdd (dAdd (dVar 5) (dC (.str " "))) (dVar 6))) bNil)) (bSeq (bExpr (dLm 1 qAppend (dAc (dFrz (dVar 5)) dA0))) bNil)))) (bSeq (bRet (dJoin (dC (.str "\n")) (dVar 1))) bNil)))
def u_qtext_k80 : List Ar → R (Rs × List Sl) := runB 7 1 b_qtext_k80
theorem sc_qtext : FnScope ["_law_named_here", "_law_rows", "_law_name", "_law_price_here", "_law_elders", "_law_row", "_law_elder"] ["_law_named_here"] (defScope (top 28)) := ⟨rfl, rfl, rfl, by decide +kernel, rfl, by decide +kernel, by decide +kernel⟩
theorem fo_qtext {P : Program} {w : World} {K : PySem.W.Frag} {mg : Str → Option Value} {base : Heap} (E : Env K mg) {f : Addr} {fd : FuncData} (F : FunD K "_law_text" "_law_text" (defArgs (top 28)) (defBody (top 28)) (defScope (top 28)) [] [] f fd) : FnOk P w K mg base (L2.CX P w) (0 + 1) f fd ["_law_named_here"] (spU K mg u_qtext_k80) := by
  refine fn_u (N := ["_law_named_here", "_law_rows", "_law_name", "_law_price_here", "_law_elders", "_law_row", "_law_elder"]) (ps := ["_law_named_here"]) (k := 0) F sc_qtext (b := b_qtext_k80) (by decide) fun X W h => ?_
  have C := h.cf
  have hb_str : X.mg "str" = none := by rw [h.mg]; exact E.b_str
  have n0 : (["_law_named_here", "_law_rows", "_law_name", "_law_price_here", "_law_elders", "_law_row", "_law_elder"] : List Str)[0]? = some ("_law_named_here" : Str) := rfl
  have v0 : visB (defScope (top 28)) "_law_named_here" = true := by decide +kernel
  have s0 : Sto X (defScope (top 28)) "_law_named_here" := sto_c h.fn (by decide +kernel)
  have n1 : (["_law_named_here", "_law_rows", "_law_name", "_law_price_here", "_law_elders", "_law_row", "_law_elder"] : List Str)[1]? = some ("_law_rows" : Str) := rfl
  have v1 : visB (defScope (top 28)) "_law_rows" = true := by decide +kernel
  have s1 : Sto X (defScope (top 28)) "_law_rows" := sto_c h.fn (by decide +kernel)
  have n2 : (["_law_named_here", "_law_rows", "_law_name", "_law_price_here", "_law_elders", "_law_row", "_law_elder"] : List Str)[2]? = some ("_law_name" : Str) := rfl
  have v2 : visB (defScope (top 28)) "_law_name" = true := by decide +kernel
  have s2 : Sto X (defScope (top 28)) "_law_name" := sto_c h.fn (by decide +kernel)
  have n3 : (["_law_named_here", "_law_rows", "_law_name", "_law_price_here", "_law_elders", "_law_row", "_law_elder"] : List Str)[3]? = some ("_law_price_here" : Str) := rfl
  have v3 : visB (defScope (top 28)) "_law_price_here" = true := by decide +kernel
  have s3 : Sto X (defScope (top 28)) "_law_price_here" := sto_c h.fn (by decide +kernel)
  have n4 : (["_law_named_here", "_law_rows", "_law_name", "_law_price_here", "_law_elders", "_law_row", "_law_elder"] : List Str)[4]? = some ("_law_elders" : Str) := rfl
  have v4 : visB (defScope (top 28)) "_law_elders" = true := by decide +kernel
  have s4 : Sto X (defScope (top 28)) "_law_elders" := sto_c h.fn (by decide +kernel)
  have n5 : (["_law_named_here", "_law_rows", "_law_name", "_law_price_here", "_law_elders", "_law_row", "_law_elder"] : List Str)[5]? = some ("_law_row" : Str) := rfl
  have v5 : visB (defScope (top 28)) "_law_row" = true := by decide +kernel
  have s5 : Sto X (defScope (top 28)) "_law_row" := sto_c h.fn (by decide +kernel)
  have n6 : (["_law_named_here", "_law_rows", "_law_name", "_law_price_here", "_law_elders", "_law_row", "_law_elder"] : List Str)[6]? = some ("_law_elder" : Str) := rfl
  have v6 : visB (defScope (top 28)) "_law_elder" = true := by decide +kernel
  have s6 : Sto X (defScope (top 28)) "_law_elder" := sto_c h.fn (by decide +kernel)
  unfold b_qtext_k80
  exact (cs_cons (c1_setX C.toCf0 1 n1 s1 (cx_c (cc_l (cn_lst ca_nil)))) (cs_cons (c1_for C [2, 3, 4, 5, 6] (ci_seq (ce_var C.toCf0 0 n0 (by decide +kernel))) (cg_tup3 C (cg_name C.toCf0 2 n2 s2) (cg_name C.toCf0 3 n3 s3) (cg_name C.toCf0 4 n4 s4)) (cs_cons (c1_set C.toCf0 5 n5 s5 (ce_add (ce_add (ce_var C.toCf0 2 n2 (by decide +kernel)) ce_str) (ce_str1 C.toCf0 (by decide +kernel) hb_str (ca_cons (ce_var C.toCf0 3 n3 (by decide +kernel)) ca_nil)))) (cs_cons (c1_for C [6] (ci_seq (ce_var C.toCf0 4 n4 (by decide +kernel))) (cg_name C.toCf0 6 n6 s6) (cs_cons (c1_set C.toCf0 5 n5 s5 (ce_add (ce_add (ce_var C.toCf0 5 n5 (by decide +kernel)) ce_str) (ce_var C.toCf0 6 n6 (by decide +kernel)))) cs_nil)) (cs_cons (c1_expr (ce_append C.toCf0 1 n1 (by decide +kernel) (ce_var C.toCf0 5 n5 (by decide +kernel)))) cs_nil)))) (cs_cons (c1_ret (ce_join ce_str (ce_var C.toCf0 1 n1 (by decide +kernel)))) cs_nil)))
theorem ok_qtext {P : Program} {w : World} {K : PySem.W.Frag} {mg : Str → Option Value} {base : Heap} (E : Env K mg) : Gv P w K mg base (0 + 1) "_law_text" [] (spU K mg u_qtext_k80) := by
  obtain ⟨f, fd, F, hmg⟩ := E.d_qtext
  exact Gv.of F hmg (fo_qtext E F) (F.bindsN fun _ _ _ _ _ _ us hl => match us, hl with | [_], _ => rfl) .nil
theorem xm_NoText {P : Program} {w : World} {K : PySem.W.Frag} {mg : Str → Option Value} {base : Heap} (E : Env K mg) {X : Cx} {W : WX} {sc : Scope} {N : List Str} {k : Nat} (h : Here X W P w K mg base sc N k) (hk : 2 ≤ k) : XMk X "NoText" ["row"] := by
  obtain ⟨fd, F⟩ := E.i_NoText
  exact xm1 h hk F (F.bindsN fun _ _ _ _ _ _ us hl => match us, hl with | [_, _], _ => rfl) E.j_NoText E.x_all E.hunt.1 E.hunt.2 (by decide +kernel) (by decide +kernel) ⟨rfl, rfl, rfl, by decide +kernel, rfl, by decide +kernel, by decide +kernel⟩ ⟨_, _, _, _, _, _, _, _, _, _, _, _, rfl, fun env => ⟨_, rfl⟩⟩ (by decide +kernel) (by decide +kernel) (by decide +kernel)
def b_p_is_name : DS := (bSeq (bIf (dTor (dTst (dCmp (kI fun i j => decide (i < j)) (dB kLen (dAc (dVar 0) dA0)) (dC (.int 1)))) (dTor (dTst (dCmp (kI fun i j => decide (j < i)) (dB kLen (dAc (dVar 0) dA0)) (dC (.int 8)))) (dTor (dTst (dCmp kEq (dVar 0) (dC (.str "none")))) (dTst (dCmp kEq (dVar 0) (dC (.str "open"))))))) (bSeq (bRet (dC (.bool false))) bNil) bNil) (bSeq (bRet (dB kAll (dAc (dOfN (nComp [1] (gN 1) (iTxt (dVar 0)) tYes (dFrz (dCmp kInS (dVar 1) (dC (.str "abcdefghijklmnopqrstuvwxyz")))))) dA0))) bNil))
def u_p_is_name : List Ar → R (Rs × List Sl) := runB 2 1 b_p_is_name
theorem sc_p_is_name : FnScope ["text", "sign"] ["text"] (defScope (top 13)) := ⟨rfl, rfl, rfl, by decide +kernel, rfl, by decide +kernel, by decide +kernel⟩
theorem fo_p_is_name {P : Program} {w : World} {K : PySem.W.Frag} {mg : Str → Option Value} {base : Heap} (E : Env K mg) {f : Addr} {fd : FuncData} (F : FunD K "is_name" "is_name" (defArgs (top 13)) (defBody (top 13)) (defScope (top 13)) [] [] f fd) : FnOk P w K mg base (L2.CX P w) (0 + 1) f fd ["text"] (spU K mg u_p_is_name) := by
  refine fn_u (N := ["text", "sign"]) (ps := ["text"]) (k := 0) F sc_p_is_name (b := b_p_is_name) (by decide) fun X W h => ?_
  have C := h.cf
  have hg_LETTERS : ∃ t, X.mg "LETTERS" = some (.str "abcdefghijklmnopqrstuvwxyz" t) := by rw [h.mg]; exact E.g_LETTERS
  have hb_len : X.mg "len" = none := by rw [h.mg]; exact E.b_len
  have hb_all : X.mg "all" = none := by rw [h.mg]; exact E.b_all
  have n0 : (["text", "sign"] : List Str)[0]? = some ("text" : Str) := rfl
  have v0 : visB (defScope (top 13)) "text" = true := by decide +kernel
  have s0 : Sto X (defScope (top 13)) "text" := sto_c h.fn (by decide +kernel)
  have n1 : (["text", "sign"] : List Str)[1]? = some ("sign" : Str) := rfl
  unfold b_p_is_name
  exact (cs_cons (c1_if (ct_w (cw_or (ct_cmp (ce_lt (ce_len C.toCf0 (by decide +kernel) hb_len (ca_cons (ce_var C.toCf0 0 n0 (by decide +kernel)) ca_nil)) ce_int)) (cw_or (ct_cmp (ce_gt (ce_len C.toCf0 (by decide +kernel) hb_len (ca_cons (ce_var C.toCf0 0 n0 (by decide +kernel)) ca_nil)) ce_int)) (cw_or (ct_cmp (ce_eq C.toCf0 (ce_var C.toCf0 0 n0 (by decide +kernel)) ce_str)) (cw_or1 (ct_cmp (ce_eq C.toCf0 (ce_var C.toCf0 0 n0 (by decide +kernel)) ce_str))))))) (cs_cons (c1_ret ce_bool) cs_nil) cs_nil) (cs_cons (c1_ret (ce_all C (by decide +kernel) hb_all (ca_cons (ce_ofN (cn_comp C (CompU.mk (own := [("sign", 1)]) (ci_txt (ce_var C.toCf0 0 n0 (by decide +kernel))) (by decide +kernel) (fun _ _ _ _ _ => (cg_name (Cf.blk C).toCf0 1 n1 (sto_l (by decide +kernel)))) (fun _ _ _ _ _ => cts_nil) (fun _ _ _ _ _ => (ce_frz (ce_inS (ce_var (Cf.blk C).toCf0 1 n1 (by decide +kernel)) (ce_globS (Cf.blk C).toCf0 hg_LETTERS (by decide +kernel))))) (by decide) (fun _ => rfl)))) ca_nil))) cs_nil))
theorem ok_p_is_name {P : Program} {w : World} {K : PySem.W.Frag} {mg : Str → Option Value} {base : Heap} (E : Env K mg) : Gv P w K mg base (0 + 1) "is_name" [] (spU K mg u_p_is_name) := by
  obtain ⟨f, fd, F, hmg⟩ := E.d_p_is_name
  exact Gv.of F hmg (fo_p_is_name E F) (F.bindsN fun _ _ _ _ _ _ us hl => match us, hl with | [_], _ => rfl) .nil
def b_p_price_in : DS := (bSeq (bIf (dTor (dTst (dCmp (kI fun i j => decide (i < j)) (dB kLen (dAc (dVar 0) dA0)) (dC (.int 1)))) (dTor (dTst (dCmp (kI fun i j => decide (j < i)) (dB kLen (dAc (dVar 0) dA0)) (dC (.int 31)))) (dTst (dCmp kEq (dIxS (dVar 0) (dC (.int 0))) (dC (.str "0")))))) (bSeq (bRet (dC .none)) bNil) bNil) (bSeq (bIf (dTor (dTnot (dTst (dB kAll (dAc (dOfN (nComp [1] (gN 1) (iTxt (dVar 0)) tYes (dFrz (dCmp kInS (dVar 1) (dC (.str "0123456789")))))) dA0)))) (dTst (dCmp (kI fun i j => decide (j < i)) (dB kIntT (dAc (dVar 0) dA0)) (dC (.int 1000000000000000000000000000000))))) (bSeq (bRet (dC .none)) bNil) bNil) (bSeq (bRet (dB kIntT (dAc (dVar 0) dA0))) bNil)))
def u_p_price_in : List Ar → R (Rs × List Sl) := runB 2 1 b_p_price_in
theorem sc_p_price_in : FnScope ["text", "sign"] ["text"] (defScope (top 14)) := ⟨rfl, rfl, rfl, by decide +kernel, rfl, by decide +kernel, by decide +kernel⟩
theorem fo_p_price_in {P : Program} {w : World} {K : PySem.W.Frag} {mg : Str → Option Value} {base : Heap} (E : Env K mg) {f : Addr} {fd : FuncData} (F : FunD K "price_in" "price_in" (defArgs (top 14)) (defBody (top 14)) (defScope (top 14)) [] [] f fd) : FnOk P w K mg base (L2.CX P w) (0 + 1) f fd ["text"] (spU K mg u_p_price_in) := by
  refine fn_u (N := ["text", "sign"]) (ps := ["text"]) (k := 0) F sc_p_price_in (b := b_p_price_in) (by decide) fun X W h => ?_
  have C := h.cf
  have hg_FIGURES : ∃ t, X.mg "FIGURES" = some (.str "0123456789" t) := by rw [h.mg]; exact E.g_FIGURES
  have hg_MOST_PRICE : ∃ t, X.mg "MOST_PRICE" = some (.int 1000000000000000000000000000000 t) := by rw [h.mg]; exact E.g_MOST_PRICE
  have hb_len : X.mg "len" = none := by rw [h.mg]; exact E.b_len
  have hb_all : X.mg "all" = none := by rw [h.mg]; exact E.b_all
  have hb_int : X.mg "int" = none := by rw [h.mg]; exact E.b_int
  have n0 : (["text", "sign"] : List Str)[0]? = some ("text" : Str) := rfl
  have v0 : visB (defScope (top 14)) "text" = true := by decide +kernel
  have s0 : Sto X (defScope (top 14)) "text" := sto_c h.fn (by decide +kernel)
  have n1 : (["text", "sign"] : List Str)[1]? = some ("sign" : Str) := rfl
  unfold b_p_price_in
  exact (cs_cons (c1_if (ct_w (cw_or (ct_cmp (ce_lt (ce_len C.toCf0 (by decide +kernel) hb_len (ca_cons (ce_var C.toCf0 0 n0 (by decide +kernel)) ca_nil)) ce_int)) (cw_or (ct_cmp (ce_gt (ce_len C.toCf0 (by decide +kernel) hb_len (ca_cons (ce_var C.toCf0 0 n0 (by decide +kernel)) ca_nil)) ce_int)) (cw_or1 (ct_cmp (ce_eq C.toCf0 (ce_ixS (ce_var C.toCf0 0 n0 (by decide +kernel)) ce_int) ce_str)))))) (cs_cons (c1_ret ce_none) cs_nil) cs_nil) (cs_cons (c1_if (ct_w (cw_or (ct_not (ct_of (ce_all C (by decide +kernel) hb_all (ca_cons (ce_ofN (cn_comp C (CompU.mk (own := [("sign", 1)]) (ci_txt (ce_var C.toCf0 0 n0 (by decide +kernel))) (by decide +kernel) (fun _ _ _ _ _ => (cg_name (Cf.blk C).toCf0 1 n1 (sto_l (by decide +kernel)))) (fun _ _ _ _ _ => cts_nil) (fun _ _ _ _ _ => (ce_frz (ce_inS (ce_var (Cf.blk C).toCf0 1 n1 (by decide +kernel)) (ce_globS (Cf.blk C).toCf0 hg_FIGURES (by decide +kernel))))) (by decide) (fun _ => rfl)))) ca_nil)))) (cw_or1 (ct_cmp (ce_gt (ce_intT C.toCf0 (by decide +kernel) hb_int (ca_cons (ce_var C.toCf0 0 n0 (by decide +kernel)) ca_nil)) (ce_globI C.toCf0 hg_MOST_PRICE (by decide +kernel))))))) (cs_cons (c1_ret ce_none) cs_nil) cs_nil) (cs_cons (c1_ret (ce_intT C.toCf0 (by decide +kernel) hb_int (ca_cons (ce_var C.toCf0 0 n0 (by decide +kernel)) ca_nil))) cs_nil)))
theorem ok_p_price_in {P : Program} {w : World} {K : PySem.W.Frag} {mg : Str → Option Value} {base : Heap} (E : Env K mg) : Gv P w K mg base (0 + 1) "price_in" [] (spU K mg u_p_price_in) := by
  obtain ⟨f, fd, F, hmg⟩ := E.d_p_price_in
  exact Gv.of F hmg (fo_p_price_in E F) (F.bindsN fun _ _ _ _ _ _ us hl => match us, hl with | [_], _ => rfl) .nil
def b_p_row_in : DS := (bSeq (bIf (dTor (dTst (dCmp (kI fun i j => decide (i < j)) (dB kLen (dAc (dVar 0) dA0)) (dC (.int 2)))) (dTor (dTnot (dTst (eX (xCall u_p_is_name [] (dAc (dIxB (dVar 0) (dC (.int 0))) dA0))))) (dTor (dTst (dCmp kInB (dIxB (dVar 0) (dC (.int 0))) (dVar 1))) (dTst (dCmp kIs (eX (xCall u_p_price_in [] (dAc (dIxB (dVar 0) (dC (.int 1))) dA0))) (dC .none)))))) (bSeq (bRet (dC .none)) bNil) bNil) (bSeq (bSet 2 (dFrz (eX (xCut (dVar 0) (oSome (dC (.int 2))) oNone)))) (bSeq (bIf (dTor (dTst (dCmp (kI fun i j => decide (i < j)) (dLsetT (dVar 2)) (dB kLen (dAc (dVar 2) dA0)))) (dTnot (dTst (dB kAll (dAc (dOfN (nComp [3] (gN 3) (iSeq (dVar 2)) tYes (dFrz (dCmp kInB (dVar 3) (dVar 1))))) dA0))))) (bSeq (bRet (dC .none)) bNil) bNil) (bSeq (bRet (dTup (dAc (dFrz (dIxB (dVar 0) (dC (.int 0)))) (dAc (eX (xCall u_p_price_in [] (dAc (dIxB (dVar 0) (dC (.int 1))) dA0))) (dAc (dB kTuple (dAc (dVar 2) dA0)) dA0))))) bNil))))
def u_p_row_in : List Ar → R (Rs × List Sl) := runB 4 2 b_p_row_in
theorem sc_p_row_in : FnScope ["words", "known", "elders", "word"] ["words", "known"] (defScope (top 15)) := ⟨rfl, rfl, rfl, by decide +kernel, rfl, by decide +kernel, by decide +kernel⟩
theorem fo_p_row_in {P : Program} {w : World} {K : PySem.W.Frag} {mg : Str → Option Value} {base : Heap} (E : Env K mg) {f : Addr} {fd : FuncData} (F : FunD K "row_in" "row_in" (defArgs (top 15)) (defBody (top 15)) (defScope (top 15)) [] [] f fd) : FnOk P w K mg base (L2.CX P w) (1 + 1) f fd ["words", "known"] (spU K mg u_p_row_in) := by
  refine fn_u (N := ["words", "known", "elders", "word"]) (ps := ["words", "known"]) (k := 1) F sc_p_row_in (b := b_p_row_in) (by decide) fun X W h => ?_
  have C := h.cf
  have hb_len : X.mg "len" = none := by rw [h.mg]; exact E.b_len
  have hb_set : X.mg "set" = none := by rw [h.mg]; exact E.b_set
  have hb_all : X.mg "all" = none := by rw [h.mg]; exact E.b_all
  have hb_tuple : X.mg "tuple" = none := by rw [h.mg]; exact E.b_tuple
  have c_p_is_name := (ok_p_is_name (P := P) (w := w) (base := base) E).u h (by omega)
  have c_p_price_in := (ok_p_price_in (P := P) (w := w) (base := base) E).u h (by omega)
  have n0 : (["words", "known", "elders", "word"] : List Str)[0]? = some ("words" : Str) := rfl
  have v0 : visB (defScope (top 15)) "words" = true := by decide +kernel
  have s0 : Sto X (defScope (top 15)) "words" := sto_c h.fn (by decide +kernel)
  have n1 : (["words", "known", "elders", "word"] : List Str)[1]? = some ("known" : Str) := rfl
  have v1 : visB (defScope (top 15)) "known" = true := by decide +kernel
  have s1 : Sto X (defScope (top 15)) "known" := sto_c h.fn (by decide +kernel)
  have n2 : (["words", "known", "elders", "word"] : List Str)[2]? = some ("elders" : Str) := rfl
  have v2 : visB (defScope (top 15)) "elders" = true := by decide +kernel
  have s2 : Sto X (defScope (top 15)) "elders" := sto_c h.fn (by decide +kernel)
  have n3 : (["words", "known", "elders", "word"] : List Str)[3]? = some ("word" : Str) := rfl
  unfold b_p_row_in
  exact (cs_cons (c1_if (ct_w (cw_or (ct_cmp (ce_lt (ce_len C.toCf0 (by decide +kernel) hb_len (ca_cons (ce_var C.toCf0 0 n0 (by decide +kernel)) ca_nil)) ce_int)) (cw_or (ct_not (ct_of (ce_x (cx_call C.toCf0 c_p_is_name (by decide +kernel) (fun _ _ => .nil) (ca_cons (ce_ixB C.toCf0 (ce_var C.toCf0 0 n0 (by decide +kernel)) ce_int) ca_nil))))) (cw_or (ct_cmp (ce_inB C.toCf0 (ce_ixB C.toCf0 (ce_var C.toCf0 0 n0 (by decide +kernel)) ce_int) (ce_var C.toCf0 1 n1 (by decide +kernel)))) (cw_or1 (ct_cmp (ce_is (ce_x (cx_call C.toCf0 c_p_price_in (by decide +kernel) (fun _ _ => .nil) (ca_cons (ce_ixB C.toCf0 (ce_var C.toCf0 0 n0 (by decide +kernel)) ce_int) ca_nil))) ce_none))))))) (cs_cons (c1_ret ce_none) cs_nil) cs_nil) (cs_cons (c1_set C.toCf0 2 n2 s2 (ce_frz (ce_x (cx_cut (ce_var C.toCf0 0 n0 (by decide +kernel)) (co_some ce_int) co_none)))) (cs_cons (c1_if (ct_w (cw_or (ct_cmp (ce_lt (ce_lsetT C (by decide +kernel) hb_len (by decide +kernel) hb_set (ce_var C.toCf0 2 n2 (by decide +kernel))) (ce_len C.toCf0 (by decide +kernel) hb_len (ca_cons (ce_var C.toCf0 2 n2 (by decide +kernel)) ca_nil)))) (cw_or1 (ct_not (ct_of (ce_all C (by decide +kernel) hb_all (ca_cons (ce_ofN (cn_comp C (CompU.mk (own := [("word", 3)]) (ci_seq (ce_var C.toCf0 2 n2 (by decide +kernel))) (by decide +kernel) (fun _ _ _ _ _ => (cg_name (Cf.blk C).toCf0 3 n3 (sto_l (by decide +kernel)))) (fun _ _ _ _ _ => cts_nil) (fun _ _ _ _ _ => (ce_frz (ce_inB (Cf.blk C).toCf0 (ce_var (Cf.blk C).toCf0 3 n3 (by decide +kernel)) (ce_var (Cf.blk C).toCf0 1 n1 (by decide +kernel))))) (by decide) (fun _ => rfl)))) ca_nil))))))) (cs_cons (c1_ret ce_none) cs_nil) cs_nil) (cs_cons (c1_ret (ce_tup (ca_cons (ce_frz (ce_ixB C.toCf0 (ce_var C.toCf0 0 n0 (by decide +kernel)) ce_int)) (ca_cons (ce_x (cx_call C.toCf0 c_p_price_in (by decide +kernel) (fun _ _ => .nil) (ca_cons (ce_ixB C.toCf0 (ce_var C.toCf0 0 n0 (by decide +kernel)) ce_int) ca_nil))) (ca_cons (ce_tuple C.toCf0 (by decide +kernel) hb_tuple (ca_cons (ce_var C.toCf0 2 n2 (by decide +kernel)) ca_nil)) ca_nil))))) cs_nil))))
theorem ok_p_row_in {P : Program} {w : World} {K : PySem.W.Frag} {mg : Str → Option Value} {base : Heap} (E : Env K mg) : Gv P w K mg base (1 + 1) "row_in" [] (spU K mg u_p_row_in) := by
  obtain ⟨f, fd, F, hmg⟩ := E.d_p_row_in
  exact Gv.of F hmg (fo_p_row_in E F) (F.bindsN fun _ _ _ _ _ _ us hl => match us, hl with | [_, _], _ => rfl) .nil
def b_p_read_net : DS := (bSeq (bIf (dTnot (dTst (dIsi [.str] (dVar 0)))) (bSeq (bRaise "NoText" ["row"] (dAc (dC (.int 0)) dA0)) bNil) bNil) (bSeq (bSetX 1 (xC (nL (dLst dA0)))) (bSeq (bSetX 2 (xC (nDic0 .k))) (bSeq (bFor [3, 4, 5] (gT2 (gN 3) (gN 4)) (iEnum (dSplit (dVar 0) (dC (.str "\n")))) (bSeq (bSet 5 (eX (xCallC u_p_row_in 1 [] (dAc (dSplit (dVar 4) (dC (.str " "))) (dAc (dVar 2) dA0))))) (bSeq (bIf (dTor (dTst (dCmp kIs (dVar 5) (dC .none))) (dTst (dCmp (kI fun i j => decide (j ≤ i)) (dVar 3) (dC (.int 40))))) (bSeq (bRaise "NoText" ["row"] (dAc (dFrz (dVar 3)) dA0)) bNil) bNil) (bSeq (bPut 2 (dVar 3) (dIxB (dVar 5) (dC (.int 0)))) (bSeq (bExpr (dLm 1 qAppend (dAc (dFrz (dVar 5)) dA0))) bNil))))) (bSeq (bRetO 1) bNil)))))
def u_p_read_net : List Ar → R (Rs × List Sl) := runB 6 1 b_p_read_net
theorem sc_p_read_net : FnScope ["text", "named", "known", "place", "row", "found"] ["text"] (defScope (top 16)) := ⟨rfl, rfl, rfl, by decide +kernel, rfl, by decide +kernel, by decide +kernel⟩
theorem fo_p_read_net {P : Program} {w : World} {K : PySem.W.Frag} {mg : Str → Option Value} {base : Heap} (E : Env K mg) {f : Addr} {fd : FuncData} (F : FunD K "read_net" "read_net" (defArgs (top 16)) (defBody (top 16)) (defScope (top 16)) [] [] f fd) : FnOk P w K mg base (L2.CX P w) (2 + 1) f fd ["text"] (spU K mg u_p_read_net) := by
  refine fn_u (N := ["text", "named", "known", "place", "row", "found"]) (ps := ["text"]) (k := 2) F sc_p_read_net (b := b_p_read_net) (by decide) fun X W h => ?_
  have C := h.cf
  have hg_MOST_ROWS : ∃ t, X.mg "MOST_ROWS" = some (.int 40 t) := by rw [h.mg]; exact E.g_MOST_ROWS
  have hb_isinstance : X.mg "isinstance" = none := by rw [h.mg]; exact E.b_isinstance
  have hb_str : X.mg "str" = none := by rw [h.mg]; exact E.b_str
  have hb_enumerate : X.mg "enumerate" = none := by rw [h.mg]; exact E.b_enumerate
  have c_p_row_in := (ok_p_row_in (P := P) (w := w) (base := base) E).u h (by omega)
  have hX : XAll X.K X.mg ["NoNet", "NoText"] [] [] ["make", "row"] := by rw [h.K, h.mg]; exact E.x_all
  have m_NoText := xm_NoText E h (by omega)
  have n0 : (["text", "named", "known", "place", "row", "found"] : List Str)[0]? = some ("text" : Str) := rfl
  have v0 : visB (defScope (top 16)) "text" = true := by decide +kernel
  have s0 : Sto X (defScope (top 16)) "text" := sto_c h.fn (by decide +kernel)
  have n1 : (["text", "named", "known", "place", "row", "found"] : List Str)[1]? = some ("named" : Str) := rfl
  have v1 : visB (defScope (top 16)) "named" = true := by decide +kernel
  have s1 : Sto X (defScope (top 16)) "named" := sto_c h.fn (by decide +kernel)
  have n2 : (["text", "named", "known", "place", "row", "found"] : List Str)[2]? = some ("known" : Str) := rfl
  have v2 : visB (defScope (top 16)) "known" = true := by decide +kernel
  have s2 : Sto X (defScope (top 16)) "known" := sto_c h.fn (by decide +kernel)
  have n3 : (["text", "named", "known", "place", "row", "found"] : List Str)[3]? = some ("place" : Str) := rfl
  have v3 : visB (defScope (top 16)) "place" = true := by decide +kernel
  have s3 : Sto X (defScope (top 16)) "place" := sto_c h.fn (by decide +kernel)
  have n4 : (["text", "named", "known", "place", "row", "found"] : List Str)[4]? = some ("row" : Str) := rfl
  have v4 : visB (defScope (top 16)) "row" = true := by decide +kernel
  have s4 : Sto X (defScope (top 16)) "row" := sto_c h.fn (by decide +kernel)
  have n5 : (["text", "named", "known", "place", "row", "found"] : List Str)[5]? = some ("found" : Str) := rfl
  have v5 : visB (defScope (top 16)) "found" = true := by decide +kernel
  have s5 : Sto X (defScope (top 16)) "found" := sto_c h.fn (by decide +kernel)
  unfold b_p_read_net
  exact (cs_cons (c1_if (ct_not (ct_of (ce_isi C.toCf0 .str (by decide +kernel) hb_isinstance (by decide +kernel) hb_str rfl (ce_var C.toCf0 0 n0 (by decide +kernel))))) (cs_cons (c1_raise C hX m_NoText (by decide +kernel) (by decide +kernel) (ca_cons ce_int ca_nil)) cs_nil) cs_nil) (cs_cons (c1_setX C.toCf0 1 n1 s1 (cx_c (cc_l (cn_lst ca_nil)))) (cs_cons (c1_setX C.toCf0 2 n2 s2 (cx_c (cc_dic0 .k))) (cs_cons (c1_for C [3, 4, 5] (ci_enum C.toCf0 (by decide +kernel) hb_enumerate (ce_split (ce_var C.toCf0 0 n0 (by decide +kernel)) ce_str)) (cg_tup2 C (cg_name C.toCf0 3 n3 s3) (cg_name C.toCf0 4 n4 s4)) (cs_cons (c1_set C.toCf0 5 n5 s5 (ce_x (cx_callC C.toCf0 1 c_p_row_in (by decide +kernel) (fun _ _ => .nil) (ca_cons (ce_split (ce_var C.toCf0 4 n4 (by decide +kernel)) ce_str) (ca_cons (ce_var C.toCf0 2 n2 (by decide +kernel)) ca_nil))))) (cs_cons (c1_if (ct_w (cw_or (ct_cmp (ce_is (ce_var C.toCf0 5 n5 (by decide +kernel)) ce_none)) (cw_or1 (ct_cmp (ce_ge (ce_var C.toCf0 3 n3 (by decide +kernel)) (ce_globI C.toCf0 hg_MOST_ROWS (by decide +kernel))))))) (cs_cons (c1_raise C hX m_NoText (by decide +kernel) (by decide +kernel) (ca_cons (ce_frz (ce_var C.toCf0 3 n3 (by decide +kernel))) ca_nil)) cs_nil) cs_nil) (cs_cons (c1_put C.toCf0 2 n2 v2 (ce_var C.toCf0 3 n3 (by decide +kernel)) (ce_ixB C.toCf0 (ce_var C.toCf0 5 n5 (by decide +kernel)) ce_int)) (cs_cons (c1_expr (ce_append C.toCf0 1 n1 (by decide +kernel) (ce_var C.toCf0 5 n5 (by decide +kernel)))) cs_nil))))) (cs_cons (c1_retO C.toCf0 1 n1 (by decide +kernel)) cs_nil)))))
theorem ok_p_read_net {P : Program} {w : World} {K : PySem.W.Frag} {mg : Str → Option Value} {base : Heap} (E : Env K mg) : Gv P w K mg base (2 + 1) "read_net" [] (spU K mg u_p_read_net) := by
  obtain ⟨f, fd, F, hmg⟩ := E.d_p_read_net
  exact Gv.of F hmg (fo_p_read_net E F) (F.bindsN fun _ _ _ _ _ _ us hl => match us, hl with | [_], _ => rfl) .nil
def b_qsame_k80 : Nat → DS
  | 0 => bBad
  | n + 1 => (bSeq (bIf (dTst (dIsi [.list, .tuple] (dVar 1))) (bSeq (bIf (dTor (dTst (dCmp kNe (dIsi [.list] (dVar 0)) (dIsi [.list] (dVar 1)))) (dTst (dCmp kNe (dIsi [.tuple] (dVar 0)) (dIsi [.tuple] (dVar 1))))) (bSeq (bRet (dC (.bool false))) bNil) bNil) (bSeq (bIf (dTst (dCmp kNe (dB kLen (dAc (dVar 0) dA0)) (dB kLen (dAc (dVar 1) dA0)))) (bSeq (bRet (dC (.bool false))) bNil) bNil) (bSeq (bRet (dCmp kNinB (dC (.bool false)) (dOfN (nComp [2, 3] (gT2 (gN 2) (gN 3)) (iZipX (dVar 0) (dVar 1)) tYes (dFrz (eX (xCall (runB 4 2 (b_qsame_k80 n)) [] (dAc (dVar 2) (dAc (dVar 3) dA0))))))))) bNil))) bNil) (bSeq (bIf (dTst (dIsi [.str] (dVar 1))) (bSeq (bRet (dAnd (dIsi [.str] (dVar 0)) (dCmp kEq (dVar 0) (dVar 1)))) bNil) bNil) (bSeq (bRet (dAnd (dIsi [.int] (dVar 0)) (dAnd (dNot (dIsi [.bool] (dVar 0))) (dCmp kEq (dVar 0) (dVar 1))))) bNil)))
def u_qsame_k80 (n : Nat) : List Ar → R (Rs × List Sl) := runB 4 2 (b_qsame_k80 n)
theorem sc_qsame : FnScope ["_law_found", "_law_due", "_law_one", "_law_other"] ["_law_found", "_law_due"] (defScope (top 29)) := ⟨rfl, rfl, rfl, by decide +kernel, rfl, by decide +kernel, by decide +kernel⟩
theorem fo_qsame {P : Program} {w : World} {K : PySem.W.Frag} {mg : Str → Option Value} {base : Heap} (E : Env K mg) {f : Addr} {fd : FuncData} (F : FunD K "_law_same" "_law_same" (defArgs (top 29)) (defBody (top 29)) (defScope (top 29)) [] [] f fd) (hmg : mg "_law_same" = some (.ref f)) : ∀ n : Nat, FnOk P w K mg base (L2.CX P w) (0 + n + 1) f fd ["_law_found", "_law_due"] (spU K mg (u_qsame_k80 n))
  | 0 => fn_u (N := ["_law_found", "_law_due", "_law_one", "_law_other"]) (ps := ["_law_found", "_law_due"]) F sc_qsame (b := b_qsame_k80 0) (by decide) fun X W h => cs_bad
  | n + 1 => by
    have IH := fo_qsame (P := P) (w := w) (base := base) E F hmg n
    refine fn_u (N := ["_law_found", "_law_due", "_law_one", "_law_other"]) (ps := ["_law_found", "_law_due"]) (k := 0 + n + 1) F sc_qsame (b := b_qsame_k80 (n + 1)) (by decide) fun X W h => ?_
    have C := h.cf
    have c_qsame := (Gv.of F hmg IH (F.bindsN fun _ _ _ _ _ _ us hl => match us, hl with | [_, _], _ => rfl) .nil).u h (Nat.le_refl _)
    have hb_isinstance : X.mg "isinstance" = none := by rw [h.mg]; exact E.b_isinstance
    have hb_list : X.mg "list" = none := by rw [h.mg]; exact E.b_list
    have hb_tuple : X.mg "tuple" = none := by rw [h.mg]; exact E.b_tuple
    have hb_len : X.mg "len" = none := by rw [h.mg]; exact E.b_len
    have hb_zip : X.mg "zip" = none := by rw [h.mg]; exact E.b_zip
    have hb_str : X.mg "str" = none := by rw [h.mg]; exact E.b_str
    have hb_int : X.mg "int" = none := by rw [h.mg]; exact E.b_int
    have hb_bool : X.mg "bool" = none := by rw [h.mg]; exact E.b_bool
    have n0 : (["_law_found", "_law_due", "_law_one", "_law_other"] : List Str)[0]? = some ("_law_found" : Str) := rfl
    have v0 : visB (defScope (top 29)) "_law_found" = true := by decide +kernel
    have s0 : Sto X (defScope (top 29)) "_law_found" := sto_c h.fn (by decide +kernel)
    have n1 : (["_law_found", "_law_due", "_law_one", "_law_other"] : List Str)[1]? = some ("_law_due" : Str) := rfl
    have v1 : visB (defScope (top 29)) "_law_due" = true := by decide +kernel
    have s1 : Sto X (defScope (top 29)) "_law_due" := sto_c h.fn (by decide +kernel)
    have n2 : (["_law_found", "_law_due", "_law_one", "_law_other"] : List Str)[2]? = some ("_law_one" : Str) := rfl
    have n3 : (["_law_found", "_law_due", "_law_one", "_law_other"] : List Str)[3]? = some ("_law_other" : Str) := rfl
    show CS X W _ (b_qsame_k80 (n + 1))
    unfold b_qsame_k80
    exact (cs_cons (c1_if (ct_of (ce_isi2 C .list .tuple (by decide +kernel) hb_isinstance (by decide +kernel) hb_list (by decide +kernel) hb_tuple rfl rfl (ce_var C.toCf0 1 n1 (by decide +kernel)))) (cs_cons (c1_if (ct_w (cw_or (ct_cmp (ce_ne C.toCf0 (ce_isi C.toCf0 .list (by decide +kernel) hb_isinstance (by decide +kernel) hb_list rfl (ce_var C.toCf0 0 n0 (by decide +kernel))) (ce_isi C.toCf0 .list (by decide +kernel) hb_isinstance (by decide +kernel) hb_list rfl (ce_var C.toCf0 1 n1 (by decide +kernel))))) (cw_or1 (ct_cmp (ce_ne C.toCf0 (ce_isi C.toCf0 .tuple (by decide +kernel) hb_isinstance (by decide +kernel) hb_tuple rfl (ce_var C.toCf0 0 n0 (by decide +kernel))) (ce_isi C.toCf0 .tuple (by decide +kernel) hb_isinstance (by decide +kernel) hb_tuple rfl (ce_var C.toCf0 1 n1 (by decide +kernel)))))))) (cs_cons (c1_ret ce_bool) cs_nil) cs_nil) (cs_cons (c1_if (ct_cmp (ce_ne C.toCf0 (ce_len C.toCf0 (by decide +kernel) hb_len (ca_cons (ce_var C.toCf0 0 n0 (by decide +kernel)) ca_nil)) (ce_len C.toCf0 (by decide +kernel) hb_len (ca_cons (ce_var C.toCf0 1 n1 (by decide +kernel)) ca_nil)))) (cs_cons (c1_ret ce_bool) cs_nil) cs_nil) (cs_cons (c1_ret (ce_notinB C.toCf0 ce_bool (ce_ofN (cn_comp C (CompU.mk (own := [("_law_one", 2), ("_law_other", 3)]) (ci_zipX C.toCf0 (by decide +kernel) hb_zip (ce_var C.toCf0 0 n0 (by decide +kernel)) (ce_var C.toCf0 1 n1 (by decide +kernel))) (by decide +kernel) (fun _ _ _ _ _ => (cg_tup2 (Cf.blk C) (cg_name (Cf.blk C).toCf0 2 n2 (sto_l (by decide +kernel))) (cg_name (Cf.blk C).toCf0 3 n3 (sto_l (by decide +kernel))))) (fun _ _ _ _ _ => cts_nil) (fun _ _ _ _ _ => (ce_frz (ce_x (cx_call (Cf.blk C).toCf0 c_qsame.blk (by decide +kernel) (fun _ _ => .nil) (ca_cons (ce_var (Cf.blk C).toCf0 2 n2 (by decide +kernel)) (ca_cons (ce_var (Cf.blk C).toCf0 3 n3 (by decide +kernel)) ca_nil)))))) (by decide) (fun _ => rfl)))))) cs_nil))) cs_nil) (cs_cons (c1_if (ct_of (ce_isi C.toCf0 .str (by decide +kernel) hb_isinstance (by decide +kernel) hb_str rfl (ce_var C.toCf0 1 n1 (by decide +kernel)))) (cs_cons (c1_ret (ce_and (ce_isi C.toCf0 .str (by decide +kernel) hb_isinstance (by decide +kernel) hb_str rfl (ce_var C.toCf0 0 n0 (by decide +kernel))) (ce_one (ce_eq C.toCf0 (ce_var C.toCf0 0 n0 (by decide +kernel)) (ce_var C.toCf0 1 n1 (by decide +kernel)))))) cs_nil) cs_nil) (cs_cons (c1_ret (ce_and (ce_isi C.toCf0 .int (by decide +kernel) hb_isinstance (by decide +kernel) hb_int rfl (ce_var C.toCf0 0 n0 (by decide +kernel))) (ce_and (ce_not (ce_isi C.toCf0 .bool (by decide +kernel) hb_isinstance (by decide +kernel) hb_bool rfl (ce_var C.toCf0 0 n0 (by decide +kernel)))) (ce_one (ce_eq C.toCf0 (ce_var C.toCf0 0 n0 (by decide +kernel)) (ce_var C.toCf0 1 n1 (by decide +kernel))))))) cs_nil)))
theorem ok_qsame {P : Program} {w : World} {K : PySem.W.Frag} {mg : Str → Option Value} {base : Heap} (E : Env K mg) (n : Nat) : Gv P w K mg base (0 + n + 1) "_law_same" [] (spU K mg (u_qsame_k80 n)) := by
  obtain ⟨f, fd, F, hmg⟩ := E.d_qsame
  exact Gv.of F hmg (fo_qsame E F hmg n) (F.bindsN fun _ _ _ _ _ _ us hl => match us, hl with | [_, _], _ => rfl) .nil
def b_p_show_net : DS := (bSeq (bSetX 1 (xC (nL (dLst dA0)))) (bSeq (bFor [2, 3, 4] (gT3 (gN 2) (gN 3) (gN 4)) (iSeq (dVar 0)) (bSeq (bExpr (dLm 1 qAppend (dAc (dFrz (dJoin (dC (.str " ")) (dOfN (dCat (dOfN (dLst (dAc (dFrz (dVar 2)) (dAc (dB kStr (dAc (dVar 3) dA0)) dA0)))) (dOfN (dBN kList (dAc (dVar 4) dA0))))))) dA0))) bNil)) (bSeq (bRet (dJoin (dC (.str "\n")) (dVar 1))) bNil)))
def u_p_show_net : List Ar → R (Rs × List Sl) := runB 5 1 b_p_show_net
theorem sc_p_show_net : FnScope ["named", "rows", "name", "price", "elders"] ["named"] (defScope (top 17)) := ⟨rfl, rfl, rfl, by decide +kernel, rfl, by decide +kernel, by decide +kernel⟩
theorem fo_p_show_net {P : Program} {w : World} {K : PySem.W.Frag} {mg : Str → Option Value} {base : Heap} (E : Env K mg) {f : Addr} {fd : FuncData} (F : FunD K "show_net" "show_net" (defArgs (top 17)) (defBody (top 17)) (defScope (top 17)) [] [] f fd) : FnOk P w K mg base (L2.CX P w) (0 + 1) f fd ["named"] (spU K mg u_p_show_net) := by
  refine fn_u (N := ["named", "rows", "name", "price", "elders"]) (ps := ["named"]) (k := 0) F sc_p_show_net (b := b_p_show_net) (by decide) fun X W h => ?_
  have C := h.cf
  have hb_str : X.mg "str" = none := by rw [h.mg]; exact E.b_str
  have hb_list : X.mg "list" = none := by rw [h.mg]; exact E.b_list
  have n0 : (["named", "rows", "name", "price", "elders"] : List Str)[0]? = some ("named" : Str) := rfl
  have v0 : visB (defScope (top 17)) "named" = true := by decide +kernel
  have s0 : Sto X (defScope (top 17)) "named" := sto_c h.fn (by decide +kernel)
  have n1 : (["named", "rows", "name", "price", "elders"] : List Str)[1]? = some ("rows" : Str) := rfl
  have v1 : visB (defScope (top 17)) "rows" = true := by decide +kernel
  have s1 : Sto X (defScope (top 17)) "rows" := sto_c h.fn (by decide +kernel)
  have n2 : (["named", "rows", "name", "price", "elders"] : List Str)[2]? = some ("name" : Str) := rfl
  have v2 : visB (defScope (top 17)) "name" = true := by decide +kernel
  have s2 : Sto X (defScope (top 17)) "name" := sto_c h.fn (by decide +kernel)
  have n3 : (["named", "rows", "name", "price", "elders"] : List Str)[3]? = some ("price" : Str) := rfl
  have v3 : visB (defScope (top 17)) "price" = true := by decide +kernel
  have s3 : Sto X (defScope (top 17)) "price" := sto_c h.fn (by decide +kernel)
  have n4 : (["named", "rows", "name", "price", "elders"] : List Str)[4]? = some ("elders" : Str) := rfl
  have v4 : visB (defScope (top 17)) "elders" = true := by decide +kernel
  have s4 : Sto X (defScope (top 17)) "elders" := sto_c h.fn (by decide +kernel)
  unfold b_p_show_net
  exact (cs_cons (c1_setX C.toCf0 1 n1 s1 (cx_c (cc_l (cn_lst ca_nil)))) (cs_cons (c1_for C [2, 3, 4] (ci_seq (ce_var C.toCf0 0 n0 (by decide +kernel))) (cg_tup3 C (cg_name C.toCf0 2 n2 s2) (cg_name C.toCf0 3 n3 s3) (cg_name C.toCf0 4 n4 s4)) (cs_cons (c1_expr (ce_append C.toCf0 1 n1 (by decide +kernel) (ce_join ce_str (ce_ofN (cn_cat (ce_ofN (cn_lst (ca_cons (ce_frz (ce_var C.toCf0 2 n2 (by decide +kernel))) (ca_cons (ce_str1 C.toCf0 (by decide +kernel) hb_str (ca_cons (ce_var C.toCf0 3 n3 (by decide +kernel)) ca_nil)) ca_nil)))) (ce_ofN (cn_list C.toCf0 (by decide +kernel) hb_list (ca_cons (ce_var C.toCf0 4 n4 (by decide +kernel)) ca_nil)))))))) cs_nil)) (cs_cons (c1_ret (ce_join ce_str (ce_var C.toCf0 1 n1 (by decide +kernel)))) cs_nil)))
theorem ok_p_show_net {P : Program} {w : World} {K : PySem.W.Frag} {mg : Str → Option Value} {base : Heap} (E : Env K mg) : Gv P w K mg base (0 + 1) "show_net" [] (spU K mg u_p_show_net) := by
  obtain ⟨f, fd, F, hmg⟩ := E.d_p_show_net
  exact Gv.of F hmg (fo_p_show_net E F) (F.bindsN fun _ _ _ _ _ _ us hl => match us, hl with | [_], _ => rfl) .nil
def b_p_prices_in : DS := (bSeq (bRetC (nL (nComp [1] (gN 1) (iSeq (dVar 0)) tYes (dFrz (dIxB (dVar 1) (dC (.int 1))))))) bNil)
def u_p_prices_in : List Ar → R (Rs × List Sl) := runB 2 1 b_p_prices_in
theorem sc_p_prices_in : FnScope ["named", "row"] ["named"] (defScope (top 20)) := ⟨rfl, rfl, rfl, by decide +kernel, rfl, by decide +kernel, by decide +kernel⟩
theorem fo_p_prices_in {P : Program} {w : World} {K : PySem.W.Frag} {mg : Str → Option Value} {base : Heap} (E : Env K mg) {f : Addr} {fd : FuncData} (F : FunD K "prices_in" "prices_in" (defArgs (top 20)) (defBody (top 20)) (defScope (top 20)) [] [] f fd) : FnOk P w K mg base (L2.CX P w) (0 + 1) f fd ["named"] (spU K mg u_p_prices_in) := by
  refine fn_u (N := ["named", "row"]) (ps := ["named"]) (k := 0) F sc_p_prices_in (b := b_p_prices_in) (by decide) fun X W h => ?_
  have C := h.cf
  have n0 : (["named", "row"] : List Str)[0]? = some ("named" : Str) := rfl
  have v0 : visB (defScope (top 20)) "named" = true := by decide +kernel
  have s0 : Sto X (defScope (top 20)) "named" := sto_c h.fn (by decide +kernel)
  have n1 : (["named", "row"] : List Str)[1]? = some ("row" : Str) := rfl
  unfold b_p_prices_in
  exact (cs_cons (c1_retC (cc_l (cn_comp C (CompU.mk (own := [("row", 1)]) (ci_seq (ce_var C.toCf0 0 n0 (by decide +kernel))) (by decide +kernel) (fun _ _ _ _ _ => (cg_name (Cf.blk C).toCf0 1 n1 (sto_l (by decide +kernel)))) (fun _ _ _ _ _ => cts_nil) (fun _ _ _ _ _ => (ce_frz (ce_ixB (Cf.blk C).toCf0 (ce_var (Cf.blk C).toCf0 1 n1 (by decide +kernel)) ce_int))) (by decide) (fun _ => rfl))))) cs_nil)
theorem ok_p_prices_in {P : Program} {w : World} {K : PySem.W.Frag} {mg : Str → Option Value} {base : Heap} (E : Env K mg) : Gv P w K mg base (0 + 1) "prices_in" [] (spU K mg u_p_prices_in) := by
  obtain ⟨f, fd, F, hmg⟩ := E.d_p_prices_in
  exact Gv.of F hmg (fo_p_prices_in E F) (F.bindsN fun _ _ _ _ _ _ us hl => match us, hl with | [_], _ => rfl) .nil
theorem sc_p_names_in : FnScope ["named", "row"] ["named"] (defScope (top 18)) := ⟨rfl, rfl, rfl, by decide +kernel, rfl, by decide +kernel, by decide +kernel⟩
theorem fo_p_names_in {P : Program} {w : World} {K : PySem.W.Frag} {mg : Str → Option Value} {base : Heap} (E : Env K mg) {f : Addr} {fd : FuncData} (F : FunD K "names_in" "names_in" (defArgs (top 18)) (defBody (top 18)) (defScope (top 18)) [] [] f fd) : FnOk P w K mg base (L2.CX P w) (0 + 1) f fd ["named"] (spU K mg u_p_names_in) := by
  refine fn_u (N := ["named", "row"]) (ps := ["named"]) (k := 0) F sc_p_names_in (b := b_p_names_in) (by decide) fun X W h => ?_
  have C := h.cf
  have n0 : (["named", "row"] : List Str)[0]? = some ("named" : Str) := rfl
  have v0 : visB (defScope (top 18)) "named" = true := by decide +kernel
  have s0 : Sto X (defScope (top 18)) "named" := sto_c h.fn (by decide +kernel)
  have n1 : (["named", "row"] : List Str)[1]? = some ("row" : Str) := rfl
  unfold b_p_names_in
  exact (cs_cons (c1_retC (cc_l (cn_comp C (CompU.mk (own := [("row", 1)]) (ci_seq (ce_var C.toCf0 0 n0 (by decide +kernel))) (by decide +kernel) (fun _ _ _ _ _ => (cg_name (Cf.blk C).toCf0 1 n1 (sto_l (by decide +kernel)))) (fun _ _ _ _ _ => cts_nil) (fun _ _ _ _ _ => (ce_frz (ce_ixB (Cf.blk C).toCf0 (ce_var (Cf.blk C).toCf0 1 n1 (by decide +kernel)) ce_int))) (by decide) (fun _ => rfl))))) cs_nil)
theorem ok_p_names_in {P : Program} {w : World} {K : PySem.W.Frag} {mg : Str → Option Value} {base : Heap} (E : Env K mg) : Gv P w K mg base (0 + 1) "names_in" [] (spU K mg u_p_names_in) := by
  obtain ⟨f, fd, F, hmg⟩ := E.d_p_names_in
  exact Gv.of F hmg (fo_p_names_in E F) (F.bindsN fun _ _ _ _ _ _ us hl => match us, hl with | [_], _ => rfl) .nil
theorem xm_NoNet {P : Program} {w : World} {K : PySem.W.Frag} {mg : Str → Option Value} {base : Heap} (E : Env K mg) {X : Cx} {W : WX} {sc : Scope} {N : List Str} {k : Nat} (h : Here X W P w K mg base sc N k) (hk : 2 ≤ k) : XMk X "NoNet" ["make"] := by
  obtain ⟨fd, F⟩ := E.i_NoNet
  exact xm1 h hk F (F.bindsN fun _ _ _ _ _ _ us hl => match us, hl with | [_, _], _ => rfl) E.j_NoNet E.x_all E.hunt.1 E.hunt.2 (by decide +kernel) (by decide +kernel) ⟨rfl, rfl, rfl, by decide +kernel, rfl, by decide +kernel, by decide +kernel⟩ ⟨_, _, _, _, _, _, _, _, _, _, _, _, rfl, fun env => ⟨_, rfl⟩⟩ (by decide +kernel) (by decide +kernel) (by decide +kernel)
theorem sc_p_are_elders : FnScope ["row", "make", "elder"] ["row", "make"] (defScope (top 6)) := ⟨rfl, rfl, rfl, by decide +kernel, rfl, by decide +kernel, by decide +kernel⟩
theorem fo_p_are_elders {P : Program} {w : World} {K : PySem.W.Frag} {mg : Str → Option Value} {base : Heap} (E : Env K mg) {f : Addr} {fd : FuncData} (F : FunD K "are_elders" "are_elders" (defArgs (top 6)) (defBody (top 6)) (defScope (top 6)) [] [] f fd) : FnOk P w K mg base (L2.CX P w) (0 + 1) f fd ["row", "make"] (spU K mg uAreElders) := by
  refine fn_u (N := ["row", "make", "elder"]) (ps := ["row", "make"]) (k := 0) F sc_p_are_elders (b := bAreElders) (by decide) fun X W h => ?_
  have C := h.cf
  have hb_len : X.mg "len" = none := by rw [h.mg]; exact E.b_len
  have hb_set : X.mg "set" = none := by rw [h.mg]; exact E.b_set
  have n0 : (["row", "make", "elder"] : List Str)[0]? = some ("row" : Str) := rfl
  have v0 : visB (defScope (top 6)) "row" = true := by decide +kernel
  have s0 : Sto X (defScope (top 6)) "row" := sto_c h.fn (by decide +kernel)
  have n1 : (["row", "make", "elder"] : List Str)[1]? = some ("make" : Str) := rfl
  have v1 : visB (defScope (top 6)) "make" = true := by decide +kernel
  have s1 : Sto X (defScope (top 6)) "make" := sto_c h.fn (by decide +kernel)
  have n2 : (["row", "make", "elder"] : List Str)[2]? = some ("elder" : Str) := rfl
  have v2 : visB (defScope (top 6)) "elder" = true := by decide +kernel
  have s2 : Sto X (defScope (top 6)) "elder" := sto_c h.fn (by decide +kernel)
  unfold bAreElders
  exact (cs_cons (c1_for C [2] (ci_seq (ce_var C.toCf0 0 n0 (by decide +kernel))) (cg_name C.toCf0 2 n2 s2) (cs_cons (c1_if (ct_w (cw_or (ct_cmp (ce_lt (ce_var C.toCf0 2 n2 (by decide +kernel)) ce_int)) (cw_or1 (ct_cmp (ce_ge (ce_var C.toCf0 2 n2 (by decide +kernel)) (ce_var C.toCf0 1 n1 (by decide +kernel))))))) (cs_cons (c1_ret ce_bool) cs_nil) cs_nil) cs_nil)) (cs_cons (c1_ret (ce_eq C.toCf0 (ce_lset C (by decide +kernel) hb_len (by decide +kernel) hb_set (ce_var C.toCf0 0 n0 (by decide +kernel))) (ce_len C.toCf0 (by decide +kernel) hb_len (ca_cons (ce_var C.toCf0 0 n0 (by decide +kernel)) ca_nil)))) cs_nil))
theorem ok_p_are_elders {P : Program} {w : World} {K : PySem.W.Frag} {mg : Str → Option Value} {base : Heap} (E : Env K mg) : Gv P w K mg base (0 + 1) "are_elders" [] (spU K mg uAreElders) := by
  obtain ⟨f, fd, F, hmg⟩ := E.d_p_are_elders
  exact Gv.of F hmg (fo_p_are_elders E F) (F.bindsN fun _ _ _ _ _ _ us hl => match us, hl with | [_, _], _ => rfl) .nil
theorem sc_p_net_of : FnScope ["rows", "net", "make", "row"] ["rows"] (defScope (top 7)) := ⟨rfl, rfl, rfl, by decide +kernel, rfl, by decide +kernel, by decide +kernel⟩
theorem fo_p_net_of {P : Program} {w : World} {K : PySem.W.Frag} {mg : Str → Option Value} {base : Heap} (E : Env K mg) {f : Addr} {fd : FuncData} (F : FunD K "net_of" "net_of" (defArgs (top 7)) (defBody (top 7)) (defScope (top 7)) [] [] f fd) : FnOk P w K mg base (L2.CX P w) (2 + 1) f fd ["rows"] (spU K mg uNetOf) := by
  refine fn_u (N := ["rows", "net", "make", "row"]) (ps := ["rows"]) (k := 2) F sc_p_net_of (b := bNetOf) (by decide) fun X W h => ?_
  have C := h.cf
  have hg_MOST : ∃ t, X.mg "MOST" = some (.int 40 t) := by rw [h.mg]; exact E.g_MOST
  have hb_len : X.mg "len" = none := by rw [h.mg]; exact E.b_len
  have hb_enumerate : X.mg "enumerate" = none := by rw [h.mg]; exact E.b_enumerate
  have hb_tuple : X.mg "tuple" = none := by rw [h.mg]; exact E.b_tuple
  have hb_sorted : X.mg "sorted" = none := by rw [h.mg]; exact E.b_sorted
  have c_p_are_elders := (ok_p_are_elders (P := P) (w := w) (base := base) E).u h (by omega)
  have hX : XAll X.K X.mg ["NoNet", "NoText"] [] [] ["make", "row"] := by rw [h.K, h.mg]; exact E.x_all
  have m_NoNet := xm_NoNet E h (by omega)
  have n0 : (["rows", "net", "make", "row"] : List Str)[0]? = some ("rows" : Str) := rfl
  have v0 : visB (defScope (top 7)) "rows" = true := by decide +kernel
  have s0 : Sto X (defScope (top 7)) "rows" := sto_c h.fn (by decide +kernel)
  have n1 : (["rows", "net", "make", "row"] : List Str)[1]? = some ("net" : Str) := rfl
  have v1 : visB (defScope (top 7)) "net" = true := by decide +kernel
  have s1 : Sto X (defScope (top 7)) "net" := sto_c h.fn (by decide +kernel)
  have n2 : (["rows", "net", "make", "row"] : List Str)[2]? = some ("make" : Str) := rfl
  have v2 : visB (defScope (top 7)) "make" = true := by decide +kernel
  have s2 : Sto X (defScope (top 7)) "make" := sto_c h.fn (by decide +kernel)
  have n3 : (["rows", "net", "make", "row"] : List Str)[3]? = some ("row" : Str) := rfl
  have v3 : visB (defScope (top 7)) "row" = true := by decide +kernel
  have s3 : Sto X (defScope (top 7)) "row" := sto_c h.fn (by decide +kernel)
  unfold bNetOf
  exact (cs_cons (c1_if (ct_w (cw_or (ct_cmp (ce_lt (ce_len C.toCf0 (by decide +kernel) hb_len (ca_cons (ce_var C.toCf0 0 n0 (by decide +kernel)) ca_nil)) ce_int)) (cw_or1 (ct_cmp (ce_gt (ce_len C.toCf0 (by decide +kernel) hb_len (ca_cons (ce_var C.toCf0 0 n0 (by decide +kernel)) ca_nil)) (ce_globI C.toCf0 hg_MOST (by decide +kernel))))))) (cs_cons (c1_raise C hX m_NoNet (by decide +kernel) (by decide +kernel) (ca_cons (ce_neg ce_int) ca_nil)) cs_nil) cs_nil) (cs_cons (c1_setX C.toCf0 1 n1 s1 (cx_c (cc_l (cn_lst ca_nil)))) (cs_cons (c1_for C [2, 3] (ci_enum C.toCf0 (by decide +kernel) hb_enumerate (ce_var C.toCf0 0 n0 (by decide +kernel))) (cg_tup2 C (cg_name C.toCf0 2 n2 s2) (cg_name C.toCf0 3 n3 s3)) (cs_cons (c1_if (ct_not (ct_of (ce_x (cx_call C.toCf0 c_p_are_elders (by decide +kernel) (fun _ _ => .nil) (ca_cons (ce_var C.toCf0 3 n3 (by decide +kernel)) (ca_cons (ce_var C.toCf0 2 n2 (by decide +kernel)) ca_nil)))))) (cs_cons (c1_raise C hX m_NoNet (by decide +kernel) (by decide +kernel) (ca_cons (ce_frz (ce_var C.toCf0 2 n2 (by decide +kernel))) ca_nil)) cs_nil) cs_nil) (cs_cons (c1_expr (ce_append C.toCf0 1 n1 (by decide +kernel) (ce_tuple C.toCf0 (by decide +kernel) hb_tuple (ca_cons (ce_ofN (cn_sorted C.toCf0 (by decide +kernel) hb_sorted (ca_cons (ce_var C.toCf0 3 n3 (by decide +kernel)) ca_nil))) ca_nil)))) cs_nil))) (cs_cons (c1_ret (ce_tuple C.toCf0 (by decide +kernel) hb_tuple (ca_cons (ce_var C.toCf0 1 n1 (by decide +kernel)) ca_nil))) cs_nil))))
theorem ok_p_net_of {P : Program} {w : World} {K : PySem.W.Frag} {mg : Str → Option Value} {base : Heap} (E : Env K mg) : Gv P w K mg base (2 + 1) "net_of" [] (spU K mg uNetOf) := by
  obtain ⟨f, fd, F, hmg⟩ := E.d_p_net_of
  exact Gv.of F hmg (fo_p_net_of E F) (F.bindsN fun _ _ _ _ _ _ us hl => match us, hl with | [_], _ => rfl) .nil
def b_p_net_in : DS := (bSeq (bSet 1 (eX (xCall u_p_names_in [] (dAc (dVar 0) dA0)))) (bSeq (bSetX 2 (xC (nL (dLst dA0)))) (bSeq (bFor [3, 4, 5] (gT3 (gN 3) (gN 4) (gN 5)) (iSeq (dVar 0)) (bSeq (bExpr (dLm 2 qAppend (dAc (dFrz (dOfN (nComp [6] (gN 6) (iSeq (dVar 5)) tYes (dFrz (dIdxL (dVar 1) (dVar 6)))))) dA0))) bNil)) (bSeq (bRetX (xCall uNetOf [] (dAc (dVar 2) dA0))) bNil))))
def u_p_net_in : List Ar → R (Rs × List Sl) := runB 7 1 b_p_net_in
theorem sc_p_net_in : FnScope ["named", "names", "rows", "name", "price", "elders", "elder"] ["named"] (defScope (top 19)) := ⟨rfl, rfl, rfl, by decide +kernel, rfl, by decide +kernel, by decide +kernel⟩
theorem fo_p_net_in {P : Program} {w : World} {K : PySem.W.Frag} {mg : Str → Option Value} {base : Heap} (E : Env K mg) {f : Addr} {fd : FuncData} (F : FunD K "net_in" "net_in" (defArgs (top 19)) (defBody (top 19)) (defScope (top 19)) [] [] f fd) : FnOk P w K mg base (L2.CX P w) (3 + 1) f fd ["named"] (spU K mg u_p_net_in) := by
  refine fn_u (N := ["named", "names", "rows", "name", "price", "elders", "elder"]) (ps := ["named"]) (k := 3) F sc_p_net_in (b := b_p_net_in) (by decide) fun X W h => ?_
  have C := h.cf
  have c_p_names_in := (ok_p_names_in (P := P) (w := w) (base := base) E).u h (by omega)
  have c_p_net_of := (ok_p_net_of (P := P) (w := w) (base := base) E).u h (by omega)
  have n0 : (["named", "names", "rows", "name", "price", "elders", "elder"] : List Str)[0]? = some ("named" : Str) := rfl
  have v0 : visB (defScope (top 19)) "named" = true := by decide +kernel
  have s0 : Sto X (defScope (top 19)) "named" := sto_c h.fn (by decide +kernel)
  have n1 : (["named", "names", "rows", "name", "price", "elders", "elder"] : List Str)[1]? = some ("names" : Str) := rfl
  have v1 : visB (defScope (top 19)) "names" = true := by decide +kernel
  have s1 : Sto X (defScope (top 19)) "names" := sto_c h.fn (by decide +kernel)
  have n2 : (["named", "names", "rows", "name", "price", "elders", "elder"] : List Str)[2]? = some ("rows" : Str) := rfl
  have v2 : visB (defScope (top 19)) "rows" = true := by decide +kernel
  have s2 : Sto X (defScope (top 19)) "rows" := sto_c h.fn (by decide +kernel)
  have n3 : (["named", "names", "rows", "name", "price", "elders", "elder"] : List Str)[3]? = some ("name" : Str) := rfl
  have v3 : visB (defScope (top 19)) "name" = true := by decide +kernel
  have s3 : Sto X (defScope (top 19)) "name" := sto_c h.fn (by decide +kernel)
  have n4 : (["named", "names", "rows", "name", "price", "elders", "elder"] : List Str)[4]? = some ("price" : Str) := rfl
  have v4 : visB (defScope (top 19)) "price" = true := by decide +kernel
  have s4 : Sto X (defScope (top 19)) "price" := sto_c h.fn (by decide +kernel)
  have n5 : (["named", "names", "rows", "name", "price", "elders", "elder"] : List Str)[5]? = some ("elders" : Str) := rfl
  have v5 : visB (defScope (top 19)) "elders" = true := by decide +kernel
  have s5 : Sto X (defScope (top 19)) "elders" := sto_c h.fn (by decide +kernel)
  have n6 : (["named", "names", "rows", "name", "price", "elders", "elder"] : List Str)[6]? = some ("elder" : Str) := rfl
  unfold b_p_net_in
  exact (cs_cons (c1_set C.toCf0 1 n1 s1 (ce_x (cx_call C.toCf0 c_p_names_in (by decide +kernel) (fun _ _ => .nil) (ca_cons (ce_var C.toCf0 0 n0 (by decide +kernel)) ca_nil)))) (cs_cons (c1_setX C.toCf0 2 n2 s2 (cx_c (cc_l (cn_lst ca_nil)))) (cs_cons (c1_for C [3, 4, 5] (ci_seq (ce_var C.toCf0 0 n0 (by decide +kernel))) (cg_tup3 C (cg_name C.toCf0 3 n3 s3) (cg_name C.toCf0 4 n4 s4) (cg_name C.toCf0 5 n5 s5)) (cs_cons (c1_expr (ce_append C.toCf0 2 n2 (by decide +kernel) (ce_ofN (cn_comp C (CompU.mk (own := [("elder", 6)]) (ci_seq (ce_var C.toCf0 5 n5 (by decide +kernel))) (by decide +kernel) (fun _ _ _ _ _ => (cg_name (Cf.blk C).toCf0 6 n6 (sto_l (by decide +kernel)))) (fun _ _ _ _ _ => cts_nil) (fun _ _ _ _ _ => (ce_frz (ce_idxL (Cf.blk C).toCf0 (ce_var (Cf.blk C).toCf0 1 n1 (by decide +kernel)) (ce_var (Cf.blk C).toCf0 6 n6 (by decide +kernel))))) (by decide) (fun _ => rfl)))))) cs_nil)) (cs_cons (c1_retX (cx_call C.toCf0 c_p_net_of (by decide +kernel) (fun _ _ => .nil) (ca_cons (ce_var C.toCf0 2 n2 (by decide +kernel)) ca_nil))) cs_nil))))
theorem ok_p_net_in {P : Program} {w : World} {K : PySem.W.Frag} {mg : Str → Option Value} {base : Heap} (E : Env K mg) : Gv P w K mg base (3 + 1) "net_in" [] (spU K mg u_p_net_in) := by
  obtain ⟨f, fd, F, hmg⟩ := E.d_p_net_in
  exact Gv.of F hmg (fo_p_net_in E F) (F.bindsN fun _ _ _ _ _ _ us hl => match us, hl with | [_], _ => rfl) .nil
def b_p_law : DS := (bSeq (bSet 1 (eX (xCallN u_qnamed [] (nX (xCall uFeed [] (dAc (dVar 0) dA0))) []))) (bSeq (bSet 2 (dOfN (dBN kList (dAc (dVar 1) dA0)))) (bSeq (bSet 3 (eX (xCall u_qtext_k80 [] (dAc (dVar 1) dA0)))) (bSeq (bSetX 4 (xC (nDic0 .k))) (bSeq (bFor [5] (gN 5) (iRange1 (dB kLen (dAc (dVar 1) dA0))) (bSeq (bPut 4 (dVar 5) (dIxB (dIxB (dVar 1) (dVar 5)) (dC (.int 0)))) bNil)) (bSeq (bSet 6 (dB kTuple (dAc (dOfN (nComp [11] (gN 11) (iSeq (dVar 1)) tYes (dFrz (dB kTuple (dAc (dOfN (dBN kSorted (dAc (dOfN (nComp [12] (gN 12) (iSeq (dIxB (dVar 11) (dC (.int 2)))) tYes (dFrz (dIxB (dVar 4) (dVar 12))))) dA0))) dA0))))) dA0))) (bSeq (bSet 7 (dOfN (nComp [11] (gN 11) (iSeq (dVar 1)) tYes (dFrz (dIxB (dVar 11) (dC (.int 1))))))) (bSeq (bFor [8, 9, 10] (gN 8) (iRange1 (dC (.int 2))) (bSeq (bSetX 9 (xCall u_p_read_net [] (dAc (dVar 3) dA0))) (bSeq (bIf (dTor (dTnot (dTst (eX (xCall (u_qsame_k80 64) [] (dAc (dVar 9) (dAc (dVar 1) dA0)))))) (dTor (dTnot (dTst (eX (xCall (u_qsame_k80 64) [] (dAc (eX (xCall u_p_show_net [] (dAc (dVar 2) dA0))) (dAc (dVar 3) dA0)))))) (dTst (dCmp kNe (dVar 2) (dVar 1))))) (bSeq (bRet (dC (.bool false))) bNil) bNil) (bSeq (bSetX 10 (xCall u_p_prices_in [] (dAc (dVar 2) dA0))) (bSeq (bIf (dTor (dTnot (dTst (eX (xCall (u_qsame_k80 64) [] (dAc (eX (xCall u_p_net_in [] (dAc (dVar 9) dA0))) (dAc (dVar 6) dA0)))))) (dTnot (dTst (eX (xCall (u_qsame_k80 64) [] (dAc (dVar 10) (dAc (dVar 7) dA0))))))) (bSeq (bRet (dC (.bool false))) bNil) bNil) (bSeq (bExpr (dLm 9 qClear dA0)) (bSeq (bExpr (dLm 10 qAppend (dAc (dFrz (dC (.int 0))) dA0))) bNil))))))) (bSeq (bIf (dTor (dTnot (dTst (eX (xCall (u_qsame_k80 64) [] (dAc (eX (xCall u_p_net_in [] (dAc (dB kTuple (dAc (dVar 1) dA0)) dA0))) (dAc (dVar 6) dA0)))))) (dTnot (dTst (eX (xCall (u_qsame_k80 64) [] (dAc (eX (xCall u_p_prices_in [] (dAc (dB kTuple (dAc (dVar 1) dA0)) dA0))) (dAc (dVar 7) dA0))))))) (bSeq (bRet (dC (.bool false))) bNil) bNil) (bSeq (bRet (dAnd (eX (xCall (u_qsame_k80 64) [] (dAc (eX (xCall u_p_show_net [] (dAc (eX (xCall u_p_read_net [] (dAc (dVar 3) dA0))) dA0))) (dAc (dVar 3) dA0)))) (eX (xCall (u_qsame_k80 64) [] (dAc (eX (xCall u_p_show_net [] (dAc (dB kTuple (dAc (dVar 1) dA0)) dA0))) (dAc (dVar 3) dA0)))))) bNil))))))))))
def u_p_law : List Ar → R (Rs × List Sl) := runB 13 1 b_p_law
theorem sc_p_law : FnScope ["_law_script", "_law_named_here", "_law_handed", "_law_text_here", "_law_place", "_law_k", "_law_net", "_law_prices", "_law_again", "_law_found", "_law_told", "_law_row", "_law_elder"] ["_law_script"] (defScope (top 30)) := ⟨rfl, rfl, rfl, by decide +kernel, rfl, by decide +kernel, by decide +kernel⟩
theorem fo_p_law {P : Program} {w : World} {K : PySem.W.Frag} {mg : Str → Option Value} {base : Heap} (E : Env K mg) {f : Addr} {fd : FuncData} (F : FunD K "law" "law" (defArgs (top 30)) (defBody (top 30)) (defScope (top 30)) [] [] f fd) : FnOk P w K mg base (L2.CX P w) (65 + 1) f fd ["_law_script"] (spU K mg u_p_law) := by
  refine fn_u (N := ["_law_script", "_law_named_here", "_law_handed", "_law_text_here", "_law_place", "_law_k", "_law_net", "_law_prices", "_law_again", "_law_found", "_law_told", "_law_row", "_law_elder"]) (ps := ["_law_script"]) (k := 65) F sc_p_law (b := b_p_law) (by decide) fun X W h => ?_
  have C := h.cf
  have hb_list : X.mg "list" = none := by rw [h.mg]; exact E.b_list
  have hb_range : X.mg "range" = none := by rw [h.mg]; exact E.b_range
  have hb_len : X.mg "len" = none := by rw [h.mg]; exact E.b_len
  have hb_tuple : X.mg "tuple" = none := by rw [h.mg]; exact E.b_tuple
  have hb_sorted : X.mg "sorted" = none := by rw [h.mg]; exact E.b_sorted
  have c_qnamed := (ok_qnamed (P := P) (w := w) (base := base) E).u h (by omega)
  have c_qfeed := (ok_qfeed (P := P) (w := w) (base := base) E).u h (by omega)
  have c_qtext := (ok_qtext (P := P) (w := w) (base := base) E).u h (by omega)
  have c_p_read_net := (ok_p_read_net (P := P) (w := w) (base := base) E).u h (by omega)
  have c_qsame := (ok_qsame (P := P) (w := w) (base := base) E 64).u h (by omega)
  have c_p_show_net := (ok_p_show_net (P := P) (w := w) (base := base) E).u h (by omega)
  have c_p_prices_in := (ok_p_prices_in (P := P) (w := w) (base := base) E).u h (by omega)
  have c_p_net_in := (ok_p_net_in (P := P) (w := w) (base := base) E).u h (by omega)
  have n0 : (["_law_script", "_law_named_here", "_law_handed", "_law_text_here", "_law_place", "_law_k", "_law_net", "_law_prices", "_law_again", "_law_found", "_law_told", "_law_row", "_law_elder"] : List Str)[0]? = some ("_law_script" : Str) := rfl
  have v0 : visB (defScope (top 30)) "_law_script" = true := by decide +kernel
  have s0 : Sto X (defScope (top 30)) "_law_script" := sto_c h.fn (by decide +kernel)
  have n1 : (["_law_script", "_law_named_here", "_law_handed", "_law_text_here", "_law_place", "_law_k", "_law_net", "_law_prices", "_law_again", "_law_found", "_law_told", "_law_row", "_law_elder"] : List Str)[1]? = some ("_law_named_here" : Str) := rfl
  have v1 : visB (defScope (top 30)) "_law_named_here" = true := by decide +kernel
  have s1 : Sto X (defScope (top 30)) "_law_named_here" := sto_c h.fn (by decide +kernel)
  have n2 : (["_law_script", "_law_named_here", "_law_handed", "_law_text_here", "_law_place", "_law_k", "_law_net", "_law_prices", "_law_again", "_law_found", "_law_told", "_law_row", "_law_elder"] : List Str)[2]? = some ("_law_handed" : Str) := rfl
  have v2 : visB (defScope (top 30)) "_law_handed" = true := by decide +kernel
  have s2 : Sto X (defScope (top 30)) "_law_handed" := sto_c h.fn (by decide +kernel)
  have n3 : (["_law_script", "_law_named_here", "_law_handed", "_law_text_here", "_law_place", "_law_k", "_law_net", "_law_prices", "_law_again", "_law_found", "_law_told", "_law_row", "_law_elder"] : List Str)[3]? = some ("_law_text_here" : Str) := rfl
  have v3 : visB (defScope (top 30)) "_law_text_here" = true := by decide +kernel
  have s3 : Sto X (defScope (top 30)) "_law_text_here" := sto_c h.fn (by decide +kernel)
  have n4 : (["_law_script", "_law_named_here", "_law_handed", "_law_text_here", "_law_place", "_law_k", "_law_net", "_law_prices", "_law_again", "_law_found", "_law_told", "_law_row", "_law_elder"] : List Str)[4]? = some ("_law_place" : Str) := rfl
  have v4 : visB (defScope (top 30)) "_law_place" = true := by decide +kernel
  have s4 : Sto X (defScope (top 30)) "_law_place" := sto_c h.fn (by decide +kernel)
  have n5 : (["_law_script", "_law_named_here", "_law_handed", "_law_text_here", "_law_place", "_law_k", "_law_net", "_law_prices", "_law_again", "_law_found", "_law_told", "_law_row", "_law_elder"] : List Str)[5]? = some ("_law_k" : Str) := rfl
  have v5 : visB (defScope (top 30)) "_law_k" = true := by decide +kernel
  have s5 : Sto X (defScope (top 30)) "_law_k" := sto_c h.fn (by decide +kernel)
  have n6 : (["_law_script", "_law_named_here", "_law_handed", "_law_text_here", "_law_place", "_law_k", "_law_net", "_law_prices", "_law_again", "_law_found", "_law_told", "_law_row", "_law_elder"] : List Str)[6]? = some ("_law_net" : Str) := rfl
  have v6 : visB (defScope (top 30)) "_law_net" = true := by decide +kernel
  have s6 : Sto X (defScope (top 30)) "_law_net" := sto_c h.fn (by decide +kernel)
  have n7 : (["_law_script", "_law_named_here", "_law_handed", "_law_text_here", "_law_place", "_law_k", "_law_net", "_law_prices", "_law_again", "_law_found", "_law_told", "_law_row", "_law_elder"] : List Str)[7]? = some ("_law_prices" : Str) := rfl
  have v7 : visB (defScope (top 30)) "_law_prices" = true := by decide +kernel
  have s7 : Sto X (defScope (top 30)) "_law_prices" := sto_c h.fn (by decide +kernel)
  have n8 : (["_law_script", "_law_named_here", "_law_handed", "_law_text_here", "_law_place", "_law_k", "_law_net", "_law_prices", "_law_again", "_law_found", "_law_told", "_law_row", "_law_elder"] : List Str)[8]? = some ("_law_again" : Str) := rfl
  have v8 : visB (defScope (top 30)) "_law_again" = true := by decide +kernel
  have s8 : Sto X (defScope (top 30)) "_law_again" := sto_c h.fn (by decide +kernel)
  have n9 : (["_law_script", "_law_named_here", "_law_handed", "_law_text_here", "_law_place", "_law_k", "_law_net", "_law_prices", "_law_again", "_law_found", "_law_told", "_law_row", "_law_elder"] : List Str)[9]? = some ("_law_found" : Str) := rfl
  have v9 : visB (defScope (top 30)) "_law_found" = true := by decide +kernel
  have s9 : Sto X (defScope (top 30)) "_law_found" := sto_c h.fn (by decide +kernel)
  have n10 : (["_law_script", "_law_named_here", "_law_handed", "_law_text_here", "_law_place", "_law_k", "_law_net", "_law_prices", "_law_again", "_law_found", "_law_told", "_law_row", "_law_elder"] : List Str)[10]? = some ("_law_told" : Str) := rfl
  have v10 : visB (defScope (top 30)) "_law_told" = true := by decide +kernel
  have s10 : Sto X (defScope (top 30)) "_law_told" := sto_c h.fn (by decide +kernel)
  have n11 : (["_law_script", "_law_named_here", "_law_handed", "_law_text_here", "_law_place", "_law_k", "_law_net", "_law_prices", "_law_again", "_law_found", "_law_told", "_law_row", "_law_elder"] : List Str)[11]? = some ("_law_row" : Str) := rfl
  have n12 : (["_law_script", "_law_named_here", "_law_handed", "_law_text_here", "_law_place", "_law_k", "_law_net", "_law_prices", "_law_again", "_law_found", "_law_told", "_law_row", "_law_elder"] : List Str)[12]? = some ("_law_elder" : Str) := rfl
  unfold b_p_law
  exact (cs_cons (c1_set C.toCf0 1 n1 s1 (ce_x (cx_callN C.toCf0 c_qnamed (by decide +kernel) (fun _ _ => .nil) (cc_x (cx_call C.toCf0 c_qfeed (by decide +kernel) (fun _ _ => .nil) (ca_cons (ce_var C.toCf0 0 n0 (by decide +kernel)) ca_nil))) cnum_nil))) (cs_cons (c1_set C.toCf0 2 n2 s2 (ce_ofN (cn_list C.toCf0 (by decide +kernel) hb_list (ca_cons (ce_var C.toCf0 1 n1 (by decide +kernel)) ca_nil)))) (cs_cons (c1_set C.toCf0 3 n3 s3 (ce_x (cx_call C.toCf0 c_qtext (by decide +kernel) (fun _ _ => .nil) (ca_cons (ce_var C.toCf0 1 n1 (by decide +kernel)) ca_nil)))) (cs_cons (c1_setX C.toCf0 4 n4 s4 (cx_c (cc_dic0 .k))) (cs_cons (c1_for C [5] (ci_range1 C.toCf0 (by decide +kernel) hb_range (ce_len C.toCf0 (by decide +kernel) hb_len (ca_cons (ce_var C.toCf0 1 n1 (by decide +kernel)) ca_nil))) (cg_name C.toCf0 5 n5 s5) (cs_cons (c1_put C.toCf0 4 n4 v4 (ce_var C.toCf0 5 n5 (by decide +kernel)) (ce_ixB C.toCf0 (ce_ixB C.toCf0 (ce_var C.toCf0 1 n1 (by decide +kernel)) (ce_var C.toCf0 5 n5 (by decide +kernel))) ce_int)) cs_nil)) (cs_cons (c1_set C.toCf0 6 n6 s6 (ce_tuple C.toCf0 (by decide +kernel) hb_tuple (ca_cons (ce_ofN (cn_comp C (CompU.mk (own := [("_law_row", 11)]) (ci_seq (ce_var C.toCf0 1 n1 (by decide +kernel))) (by decide +kernel) (fun _ _ _ _ _ => (cg_name (Cf.blk C).toCf0 11 n11 (sto_l (by decide +kernel)))) (fun _ _ _ _ _ => cts_nil) (fun _ _ _ _ _ => (ce_frz (ce_tuple (Cf.blk C).toCf0 (by decide +kernel) hb_tuple (ca_cons (ce_ofN (cn_sorted (Cf.blk C).toCf0 (by decide +kernel) hb_sorted (ca_cons (ce_ofN (cn_comp (Cf.blk C) (CompU.mk (own := [("_law_elder", 12)]) (ci_seq (ce_ixB (Cf.blk C).toCf0 (ce_var (Cf.blk C).toCf0 11 n11 (by decide +kernel)) ce_int)) (by decide +kernel) (fun _ _ _ _ _ => (cg_name (Cf.blk (Cf.blk C)).toCf0 12 n12 (sto_l (by decide +kernel)))) (fun _ _ _ _ _ => cts_nil) (fun _ _ _ _ _ => (ce_frz (ce_ixB (Cf.blk (Cf.blk C)).toCf0 (ce_var (Cf.blk (Cf.blk C)).toCf0 4 n4 (by decide +kernel)) (ce_var (Cf.blk (Cf.blk C)).toCf0 12 n12 (by decide +kernel))))) (by decide) (fun _ => rfl)))) ca_nil))) ca_nil)))) (by decide) (fun _ => rfl)))) ca_nil))) (cs_cons (c1_lcD C rfl 7 n7 (by decide +kernel) (CompU.mk (own := [("_law_row", 11)]) (ci_seq (ce_var C.toCf0 1 n1 (by decide +kernel))) (by decide +kernel) (fun _ _ _ _ _ => (cg_name (Cf.blk C).toCf0 11 n11 (sto_l (by decide +kernel)))) (fun _ _ _ _ _ => cts_nil) (fun _ _ _ _ _ => (ce_frz (ce_ixB (Cf.blk C).toCf0 (ce_var (Cf.blk C).toCf0 11 n11 (by decide +kernel)) ce_int))) (by decide) (fun _ => rfl))) (cs_cons (c1_for C [8, 9, 10] (ci_range1 C.toCf0 (by decide +kernel) hb_range ce_int) (cg_name C.toCf0 8 n8 s8) (cs_cons (c1_setX C.toCf0 9 n9 s9 (cx_call C.toCf0 c_p_read_net (by decide +kernel) (fun _ _ => .nil) (ca_cons (ce_var C.toCf0 3 n3 (by decide +kernel)) ca_nil))) (cs_cons (c1_if (ct_w (cw_or (ct_not (ct_of (ce_x (cx_call C.toCf0 c_qsame (by decide +kernel) (fun _ _ => .nil) (ca_cons (ce_var C.toCf0 9 n9 (by decide +kernel)) (ca_cons (ce_var C.toCf0 1 n1 (by decide +kernel)) ca_nil)))))) (cw_or (ct_not (ct_of (ce_x (cx_call C.toCf0 c_qsame (by decide +kernel) (fun _ _ => .nil) (ca_cons (ce_x (cx_call C.toCf0 c_p_show_net (by decide +kernel) (fun _ _ => .nil) (ca_cons (ce_var C.toCf0 2 n2 (by decide +kernel)) ca_nil))) (ca_cons (ce_var C.toCf0 3 n3 (by decide +kernel)) ca_nil)))))) (cw_or1 (ct_cmp (ce_ne C.toCf0 (ce_var C.toCf0 2 n2 (by decide +kernel)) (ce_var C.toCf0 1 n1 (by decide +kernel)))))))) (cs_cons (c1_ret ce_bool) cs_nil) cs_nil) (cs_cons (c1_setX C.toCf0 10 n10 s10 (cx_call C.toCf0 c_p_prices_in (by decide +kernel) (fun _ _ => .nil) (ca_cons (ce_var C.toCf0 2 n2 (by decide +kernel)) ca_nil))) (cs_cons (c1_if (ct_w (cw_or (ct_not (ct_of (ce_x (cx_call C.toCf0 c_qsame (by decide +kernel) (fun _ _ => .nil) (ca_cons (ce_x (cx_call C.toCf0 c_p_net_in (by decide +kernel) (fun _ _ => .nil) (ca_cons (ce_var C.toCf0 9 n9 (by decide +kernel)) ca_nil))) (ca_cons (ce_var C.toCf0 6 n6 (by decide +kernel)) ca_nil)))))) (cw_or1 (ct_not (ct_of (ce_x (cx_call C.toCf0 c_qsame (by decide +kernel) (fun _ _ => .nil) (ca_cons (ce_var C.toCf0 10 n10 (by decide +kernel)) (ca_cons (ce_var C.toCf0 7 n7 (by decide +kernel)) ca_nil))))))))) (cs_cons (c1_ret ce_bool) cs_nil) cs_nil) (cs_cons (c1_expr (ce_clear C.toCf0 9 n9 (by decide +kernel))) (cs_cons (c1_expr (ce_append C.toCf0 10 n10 (by decide +kernel) ce_int)) cs_nil))))))) (cs_cons (c1_if (ct_w (cw_or (ct_not (ct_of (ce_x (cx_call C.toCf0 c_qsame (by decide +kernel) (fun _ _ => .nil) (ca_cons (ce_x (cx_call C.toCf0 c_p_net_in (by decide +kernel) (fun _ _ => .nil) (ca_cons (ce_tuple C.toCf0 (by decide +kernel) hb_tuple (ca_cons (ce_var C.toCf0 1 n1 (by decide +kernel)) ca_nil)) ca_nil))) (ca_cons (ce_var C.toCf0 6 n6 (by decide +kernel)) ca_nil)))))) (cw_or1 (ct_not (ct_of (ce_x (cx_call C.toCf0 c_qsame (by decide +kernel) (fun _ _ => .nil) (ca_cons (ce_x (cx_call C.toCf0 c_p_prices_in (by decide +kernel) (fun _ _ => .nil) (ca_cons (ce_tuple C.toCf0 (by decide +kernel) hb_tuple (ca_cons (ce_var C.toCf0 1 n1 (by decide +kernel)) ca_nil)) ca_nil))) (ca_cons (ce_var C.toCf0 7 n7 (by decide +kernel)) ca_nil))))))))) (cs_cons (c1_ret ce_bool) cs_nil) cs_nil) (cs_cons (c1_ret (ce_and (ce_x (cx_call C.toCf0 c_qsame (by decide +kernel) (fun _ _ => .nil) (ca_cons (ce_x (cx_call C.toCf0 c_p_show_net (by decide +kernel) (fun _ _ => .nil) (ca_cons (ce_x (cx_call C.toCf0 c_p_read_net (by decide +kernel) (fun _ _ => .nil) (ca_cons (ce_var C.toCf0 3 n3 (by decide +kernel)) ca_nil))) ca_nil))) (ca_cons (ce_var C.toCf0 3 n3 (by decide +kernel)) ca_nil)))) (ce_one (ce_x (cx_call C.toCf0 c_qsame (by decide +kernel) (fun _ _ => .nil) (ca_cons (ce_x (cx_call C.toCf0 c_p_show_net (by decide +kernel) (fun _ _ => .nil) (ca_cons (ce_tuple C.toCf0 (by decide +kernel) hb_tuple (ca_cons (ce_var C.toCf0 1 n1 (by decide +kernel)) ca_nil)) ca_nil))) (ca_cons (ce_var C.toCf0 3 n3 (by decide +kernel)) ca_nil))))))) cs_nil))))))))))
end PDW
set_option linter.all false
set_option maxRecDepth 100000
set_option autoImplicit false
namespace PD
open PySem L2
end PD
set_option linter.all false
set_option maxRecDepth 100000
set_option autoImplicit false
namespace PD
open PySem L2
def El (net : List (List Int)) (m e : Nat) : Prop := ∃ row, net[m]? = some row ∧ ((e : Nat) : Int) ∈ row
inductive Wk (net : List (List Int)) (y : Nat) : Nat → Nat → Prop
  | nil : Wk net y y 0
  | snoc {m n e : Nat} : Wk net y m n → El net m e → Wk net y e (n + 1)
theorem wk0 {net : List (List Int)} {y o : Nat} (h : Wk net y o 0) : o = y := by cases h; rfl
theorem El.lt {net : List (List Int)} (hN : NetOk net) {m e : Nat} (h : El net m e) : e < m := by
  obtain ⟨row, h1, h2⟩ := h
  have := ((hN m row h1).1 _ h2).2
  omega
theorem Wk.le {net : List (List Int)} (hN : NetOk net) {y o n : Nat} (h : Wk net y o n) : o + n ≤ y := by
  induction h with
  | nil => omega
  | snoc a b ih => have := b.lt hN; omega
def Lst (S : Nat → Prop) : Option Nat → Prop
  | none => ∀ n, ¬ S n
  | some n => S n ∧ ∀ k, S k → n ≤ k
abbrev Ds (net : List (List Int)) (y o : Nat) (a : Option Nat) : Prop := Lst (Wk net y o) a
end PD
set_option linter.all false
set_option maxRecDepth 100000
set_option autoImplicit false
namespace PD
open PySem L2
theorem nodup_len : ∀ (n : Nat) (xs : List Int), xs.Nodup → (∀ x ∈ xs, 0 ≤ x ∧ x < (n : Int)) → xs.length ≤ n
  | 0, xs, _, h => by
    cases xs with
    | nil => simp
    | cons a r => have := h a (by simp); omega
  | n + 1, xs, hn, h => by
    have h1 := nodup_len n (xs.filter fun x => decide (x ≠ (n : Int))) (hn.sublist List.filter_sublist) fun x hx => by
      have q := List.mem_filter.mp hx
      have q1 := h x q.1
      have q2 : x ≠ (n : Int) := by simpa using q.2
      omega
    have h2 : (xs.filter fun x => decide (x ≠ (n : Int))).length + xs.count (n : Int) = xs.length := by
      have : xs.count (n : Int) = (xs.filter fun x => !decide (x ≠ (n : Int))).length := by
        rw [List.count_eq_length_filter]
        congr 1
        apply List.filter_congr
        intro x _
        by_cases e : x = (n : Int) <;> simp [e]
      rw [this]
      exact filt_sum (fun x => decide (x ≠ (n : Int))) xs
    have h3 : xs.count (n : Int) ≤ 1 := List.nodup_iff_count.mp hn _
    show xs.length ≤ n + 1
    have h1 : (xs.filter fun x => decide (x ≠ (n : Int))).length ≤ n := h1
    generalize (xs.filter fun x => decide (x ≠ (n : Int))).length = q at h1 h2
    omega
structure Mid (net : List (List Int)) (y L : Nat) (E : Nat → Prop) (kvs : List (Int × PyData)) (found : List Int) : Prop where
  has : ∀ e : Nat, (lookI kvs (e : Int)).isSome = true ↔ (∃ n, n ≤ L ∧ Wk net y e n) ∨ E e
  nat : ∀ k ∈ kvs.map (·.1), 0 ≤ k ∧ k < ((y + 1 : Nat) : Int)
  val : ∀ (e : Nat) (v : PyData), lookI kvs (e : Int) = some v → (e = y ∧ v = .none) ∨ ∃ m n : Nat, v = .int (m : Int) ∧ Ds net y m (some n) ∧ Ds net y e (some (n + 1)) ∧ El net m e
  fnd : ∀ x : Int, x ∈ found ↔ ∃ e : Nat, x = (e : Int) ∧ E e ∧ ¬ ∃ n, n ≤ L ∧ Wk net y e n
  nd : (kvs.map (·.1)).Nodup
  fl : found.length ≤ kvs.length
  fv : ∀ z ∈ kvs, flat z.2 = true
theorem Mid.len {net : List (List Int)} {y L : Nat} {E : Nat → Prop} {kvs : List (Int × PyData)} {found : List Int} (h : Mid net y L E kvs found) : kvs.length ≤ y + 1 := by
  have := nodup_len (y + 1) _ h.nd h.nat
  rw [List.length_map] at this
  exact this
theorem Mid.old {net : List (List Int)} {y L : Nat} {E : Nat → Prop} {kvs : List (Int × PyData)} {found : List Int} (h : Mid net y L E kvs found) {e : Nat} (he : (lookI kvs (e : Int)).isSome = true) : Mid net y L (fun x => E x ∨ x = e) kvs found := by
  refine ⟨fun x => ?_, h.nat, h.val, fun x => ?_, h.nd, h.fl, h.fv⟩
  · rw [h.has]
    constructor
    · rintro (a | a)
      · exact .inl a
      · exact .inr (.inl a)
    · rintro (a | a | a)
      · exact .inl a
      · exact .inr a
      · subst a; exact (h.has _).mp he
  · rw [h.fnd]
    constructor
    · rintro ⟨z, h1, h2, h3⟩
      exact ⟨z, h1, .inl h2, h3⟩
    · rintro ⟨z, h1, h2 | h2, h3⟩
      · exact ⟨z, h1, h2, h3⟩
      · subst h2
        exact ⟨z, h1, ((h.has z).mp he).resolve_left h3, h3⟩
theorem Mid.new {net : List (List Int)} (hN : NetOk net) {y L : Nat} {E : Nat → Prop} {kvs : List (Int × PyData)} {found : List Int} (h : Mid net y L E kvs found) {m e : Nat} (he : lookI kvs (e : Int) = none) (hm : Ds net y m (some L)) (hl : El net m e) :
    Mid net y L (fun x => E x ∨ x = e) (putI kvs (e : Int) (.int (m : Int))) (found ++ [(e : Int)]) := by
  have hno : ¬ ((∃ n, n ≤ L ∧ Wk net y e n) ∨ E e) := fun z => by
    have := (h.has e).mpr z
    rw [he] at this; cases this
  have hle := (Wk.snoc hm.1 hl).le hN
  refine ⟨fun x => ?_, ?_, fun x v hv => ?_, fun x => ?_, ?_, ?_, ?_⟩
  · rw [lookI_put]
    by_cases q : ((x : Nat) : Int) = (e : Nat)
    · rw [if_pos q]
      have : x = e := by omega
      simp [this]
    · rw [if_neg q, h.has]
      have : x ≠ e := by omega
      simp [this]
  · rw [putI_new _ he]
    intro k hk
    rw [List.map_append, List.mem_append] at hk
    rcases hk with hk | hk
    · exact h.nat k hk
    · have : k = (e : Int) := by simpa using hk
      omega
  · rw [lookI_put] at hv
    by_cases q : ((x : Nat) : Int) = (e : Nat)
    · rw [if_pos q] at hv
      have : x = e := by omega
      subst this
      cases hv
      refine .inr ⟨m, L, rfl, hm, ⟨.snoc hm.1 hl, fun k hk => ?_⟩, hl⟩
      by_cases z : k ≤ L
      · exact absurd (.inl ⟨k, z, hk⟩) hno
      · omega
    · rw [if_neg q] at hv
      exact h.val x v hv
  · rw [List.mem_append, h.fnd]
    constructor
    · rintro (⟨z, h1, h2, h3⟩ | h1)
      · exact ⟨z, h1, .inl h2, h3⟩
      · exact ⟨e, by simpa using h1, .inr rfl, fun z => hno (.inl z)⟩
    · rintro ⟨z, h1, h2 | h2, h3⟩
      · exact .inl ⟨z, h1, h2, h3⟩
      · subst h2; exact .inr (by simp [h1])
  · rw [putI_new _ he, List.map_append, List.nodup_append]
    refine ⟨h.nd, by simp, fun a ha b hb => ?_⟩
    have : b = (e : Int) := by simpa using hb
    subst this
    rintro rfl
    obtain ⟨z, hz, hz2⟩ := List.mem_map.mp ha
    exact lookI_none.mp he z.2 (by rw [← hz2]; exact hz)
  · rw [putI_new _ he]
    have := h.fl
    simp; omega
  · rw [putI_new _ he]
    intro z hz
    rcases List.mem_append.mp hz with hz | hz
    · exact h.fv z hz
    · have : z = ((e : Int), PyData.int (m : Int)) := by simpa using hz
      subst this; rfl
abbrev YOk (net : List (List Int)) (y L : Nat) (kvs : List (Int × PyData)) : Prop := Mid net y L (fun _ => False) kvs []
theorem y0 (net : List (List Int)) (y : Nat) : YOk net y 0 [((y : Int), .none)] where
  has := fun e => by
    rw [lookI_cons, lookI_nil]
    simp only [Nat.le_zero_eq, or_false, exists_eq_left]
    constructor
    · intro h
      by_cases q : (y : Int) = (e : Int)
      · have : y = e := by omega
        subst this; exact .nil
      · rw [if_neg q] at h; cases h
    · intro h
      have := wk0 h
      subst this
      simp
  nat := by simp; omega
  val := fun e v h => by
    rw [lookI_cons, lookI_nil] at h
    by_cases q : (y : Int) = (e : Int)
    · rw [if_pos q] at h; cases h; exact .inl ⟨by omega, rfl⟩
    · rw [if_neg q] at h; cases h
  fnd := by simp
  nd := by simp
  fl := by simp
  fv := by simp [flat]
structure WayOk (net : List (List Int)) (y o n : Nat) (w : List Nat) : Prop where
  len : w.length = n + 1
  fst : w[0]? = some y
  lst : w[n]? = some o
  stp : ∀ (k a b : Nat), w[k]? = some a → w[k + 1]? = some b → El net a b
end PD
set_option linter.all false
set_option maxRecDepth 100000
set_option autoImplicit false
namespace PD
open PySem L2
end PD
set_option linter.all false
set_option maxRecDepth 100000
set_option autoImplicit false
namespace PD
open PySem L2
structure Ord (rows : List (List Int)) (order back : List Nat) : Prop where
  ol : order.length = rows.length
  bl : back.length = rows.length
  ob : ∀ p m : Nat, order[p]? = some m → back[m]? = some p
  bo : ∀ m p : Nat, back[m]? = some p → order[p]? = some m
  top : ∀ m e : Nat, El rows m e → ∀ p : Nat, back[m]? = some p → ∃ q : Nat, back[e]? = some q ∧ q < p
theorem Ord.lt {rows : List (List Int)} {order back : List Nat} (h : Ord rows order back) {p m : Nat} (hp : order[p]? = some m) : m < rows.length := by
  rw [← h.bl]
  exact (List.getElem?_eq_some_iff.mp (h.ob p m hp)).1
end PD
set_option linter.all false
set_option maxRecDepth 100000
set_option autoImplicit false
namespace PD
open PySem L2
end PD
set_option linter.all false
set_option maxRecDepth 100000
set_option autoImplicit false
namespace PD
open PySem L2
end PD
set_option linter.all false
set_option maxRecDepth 100000
set_option maxHeartbeats 0
set_option autoImplicit false
namespace PD
open PySem L2
theorem n_compS {α : Type} {enc : α → PyData} (xs : List α) {S : Type} (Rel : Nat → List PyData → S → Prop) (sh : S → List Sl) (s0 : S) {vs : List Nat} {g : DG} {it : DI} {t : DT} {e : DF} {Γ Γ1 : List Sl} {fr : Bool} (h1 : it Γ = .val ((xs.map enc, fr), Γ1)) (hs : xs.length < 2 ^ 20) (h0 : wipeG Γ1 vs = sh s0) (hr : Rel 0 [] s0)
    (hb : ∀ (i : Nat) (x : α) (out : List PyData) (s : S), xs[i]? = some x → Rel i out s → ∃ Γ2, g fr (enc x) (sh s) = some Γ2 ∧ ∃ z Γ3, t Γ2 = .val (z, Γ3) ∧ (z = true → ∃ o Γ4 s', e Γ3 = .val (.d true o, Γ4) ∧ wipeG Γ4 vs = sh s' ∧ Rel (i + 1) (out ++ [o]) s') ∧ (z = false → ∃ s', wipeG Γ3 vs = sh s' ∧ Rel (i + 1) out s')) :
    ∃ out s, nComp vs g it t e Γ = .val (out, sh s) ∧ Rel xs.length out s := by
  have key : Ok (nComp vs g it t e Γ) fun z => ∃ s, z.2 = sh s ∧ Rel xs.length z.1 s := by
    unfold nComp
    rw [h1, bind_val]
    have : szB (xs.map enc) = true := szB_map hs
    show Ok ((R.req (szB (xs.map enc))).bind _) _
    rw [this, req_true, bind_val, h0]
    refine ok_compU (fun i out Γ => ∃ s, Γ = sh s ∧ Rel i out s) (xs.map enc) ⟨s0, rfl, hr⟩ (fun i d out Γ hd hI => ?_) fun out Γ hI => ?_
    · obtain ⟨s, rfl, hI⟩ := hI
      obtain ⟨x, hx, rfl⟩ := gmap hd
      obtain ⟨Γ2, q1, z, Γ3, q2, hT, hF⟩ := hb i x out s hx hI
      refine ⟨Γ2, q1, ok_of q2 ?_⟩
      cases z with
      | true =>
        obtain ⟨o, Γ4, s', q3, q4, q5⟩ := hT rfl
        exact ok_of q3 ⟨o, rfl, s', q4, q5⟩
      | false =>
        obtain ⟨s', q4, q5⟩ := hF rfl
        exact ⟨s', q4, q5⟩
    · rw [List.length_map] at hI
      exact hI
  obtain ⟨⟨out, Γ'⟩, e1, s, h2, h3⟩ := key
  have h2 : Γ' = sh s := h2
  subst h2
  exact ⟨out, s, e1, h3⟩
abbrev Dk3 := Int × Int × Int
def BB (d : Dk3) (B : Nat) : Prop := 0 ≤ d.2.1 ∧ d.2.1 ≤ (B : Int)
theorem BB.mono {d : Dk3} {B C : Nat} (h : BB d B) (hc : B ≤ C) : BB d C := ⟨h.1, by have := h.2; omega⟩
end PD
set_option linter.all false
set_option maxRecDepth 100000
set_option maxHeartbeats 0
set_option autoImplicit false
namespace PD
open PySem L2
theorem o_some {Γ Γ1 : List Sl} {f : DF} {fr : Bool} {n : Int} (h : f Γ = .val (.d fr (.int n), Γ1)) : oSome f Γ = .val (some n, Γ1) := by unfold oSome; rw [h]; rfl
end PD
set_option linter.all false
set_option maxRecDepth 100000
set_option autoImplicit false
namespace PD
open PySem L2
def WE (b : DS) (Γ : List Sl) (x : Exn) : Prop := b Γ = .exc x
section
variable {Γ Γ1 Γ2 : List Sl} {f g : DF} {b r r2 c2 : DS} {x : DX} {t : DT} {fr z : Bool} {d : PyData} {P : Fw → List Sl → Prop} {m i : Nat} {y : Exn} {k : DA} {as : List AV} {ds : List PyData}
theorem we_seqN (h : WE r Γ y) : WE (bSeq bNil r) Γ y := h
theorem we_seqA (h : WE (bSeq b (bSeq r r2)) Γ y) : WE (bSeq (bSeq b r) r2) Γ y := by
  have e : bSeq (bSeq b r) r2 Γ = bSeq b (bSeq r r2) Γ := by
    unfold bSeq
    rw [R.bind_assoc]
    congr 1
    funext z
    obtain ⟨w, Γ1⟩ := z
    cases w <;> rfl
  unfold WE
  rw [e]
  exact h
theorem we_ifY (h1 : t Γ = .val (z, Γ1)) (hz : z = true) (h : WE (bSeq b r) Γ1 y) : WE (bSeq (bIf t b c2) r) Γ y := by
  subst hz
  have e : bSeq (bIf t b c2) r Γ = bSeq b r Γ1 := by
    unfold bSeq bIf
    rw [h1, bind_val]; rfl
  unfold WE
  rw [e]; exact h
theorem we_ifN (h1 : t Γ = .val (z, Γ1)) (hz : z = false) (h : WE (bSeq c2 r) Γ1 y) : WE (bSeq (bIf t b c2) r) Γ y := by
  subst hz
  have e : bSeq (bIf t b c2) r Γ = bSeq c2 r Γ1 := by
    unfold bSeq bIf
    rw [h1, bind_val]; rfl
  unfold WE
  rw [e]; exact h
end
local macro_rules
  | `(tactic| injections) => `(tactic| repeat (with_reducible first | apply we_seqN | apply we_seqA))
local macro_rules
  | `(tactic| false_or_by_contra) => `(tactic| (injections; apply we_ifN; array_mem_dec; (try (case hz => first | rfl | (simp [tyIs, isN, optI]; done) | (simp [tyIs, isN, optI]; omega))); injections))
local macro_rules
  | `(tactic| subst_eqs) => `(tactic| (injections; apply we_ifY; array_mem_dec; (try (case hz => first | rfl | (simp [tyIs, isN, optI]; done) | (simp [tyIs, isN, optI]; omega))); injections))
end PD
section
open PySem L2 PD
local macro_rules
  | `(tactic| injections) => `(tactic| repeat (with_reducible first | apply we_seqN | apply we_seqA))
local macro_rules
  | `(tactic| false_or_by_contra) => `(tactic| (injections; apply we_ifN; array_mem_dec; (try (case hz => first | rfl | (simp [tyIs, isN, optI]; done) | (simp [tyIs, isN, optI]; omega))); injections))
local macro_rules
  | `(tactic| subst_eqs) => `(tactic| (injections; apply we_ifY; array_mem_dec; (try (case hz => first | rfl | (simp [tyIs, isN, optI]; done) | (simp [tyIs, isN, optI]; omega))); injections))
set_option linter.all false
set_option maxRecDepth 100000
set_option autoImplicit false
namespace PD
open PySem L2
end PD
set_option linter.all false
set_option maxRecDepth 100000
set_option autoImplicit false
namespace PD
open PySem L2
end PD
set_option linter.all false
set_option maxRecDepth 100000
set_option autoImplicit false
namespace PD
open PySem L2
end PD
set_option linter.all false
set_option maxRecDepth 100000
set_option autoImplicit false
namespace PD
open PySem L2
end PD
set_option linter.all false
set_option maxRecDepth 100000
set_option autoImplicit false
namespace PD
open PySem L2
end PD
set_option linter.all false
set_option maxRecDepth 100000
set_option autoImplicit false
namespace PD
open PySem L2
end PD
set_option linter.all false
set_option maxRecDepth 100000
set_option autoImplicit false
namespace PD
open PySem L2
end PD
set_option linter.all false
set_option maxRecDepth 100000
set_option autoImplicit false
namespace PD
open PySem L2
end PD
set_option linter.all false
set_option maxRecDepth 100000
set_option maxHeartbeats 0
set_option autoImplicit false
namespace PD
open PySem L2
end PD
set_option linter.all false
set_option maxRecDepth 100000
set_option autoImplicit false
namespace PD
open PySem L2
inductive BarD : PyData → List Int → Prop
  | l (ns : List Int) : BarD (dL ns) ns
  | t (ns : List Int) : BarD (dT ns) ns
  | n : BarD .none []
end PD
set_option linter.all false
set_option maxRecDepth 100000
set_option maxHeartbeats 0
set_option autoImplicit false
namespace PD
open PySem L2
end PD
set_option linter.all false
set_option maxRecDepth 100000
set_option maxHeartbeats 0
set_option autoImplicit false
namespace PD
open PySem L2
end PD
set_option linter.all false
set_option maxRecDepth 100000
set_option maxHeartbeats 0
set_option autoImplicit false
namespace PD
open PySem L2
def Ow (n : Nat) (ks : List Int) (P : Nat → Prop) : Prop := ks.Nodup ∧ (∀ y ∈ ks, 0 ≤ y ∧ y < (n : Int)) ∧ ks ≠ [] ∧ ∀ j : Nat, (j : Int) ∈ ks ↔ P j
theorem Ow.len {n : Nat} {ks : List Int} {P : Nat → Prop} (h : Ow n ks P) : ks.length ≤ n := nodup_len n ks h.1 h.2.1
def ansL : List Str := ["good", "bad", "cannot"]
end PD
set_option linter.all false
set_option maxRecDepth 100000
set_option maxHeartbeats 0
set_option autoImplicit false
namespace PD
open PySem L2
abbrev Tr := Int × Str
def TrOk (n : Nat) (ts : List Tr) : Prop := ∀ q ∈ ts, 0 ≤ q.1 ∧ q.1 < (n : Int) ∧ q.2 ∈ ansL
section
variable (net : List (List Int)) (bs : List Int) (eb : uBitsOf [.d (dTT net)] = .val (.c (.lst (bs.map PyData.int)), [.un])) (hbl : bs.length = net.length) (hn : net.length ≤ 1000) (tp : Bool) (ts : List Tr) (hts : TrOk net.length ts) (hl : ts.length < 2 ^ 20) (lies : Int)
end
end PD
set_option linter.all false
set_option maxRecDepth 100000
set_option maxHeartbeats 0
set_option autoImplicit false
namespace PD
open PySem L2
section
variable (net : List (List Int)) (bs : List Int) (eb : uBitsOf [.d (dTT net)] = .val (.c (.lst (bs.map PyData.int)), [.un])) (hbl : bs.length = net.length) (hn : net.length ≤ 1000) (tp : Bool) (ts : List Tr) (hts : TrOk net.length ts) (hl : ts.length < 2 ^ 20) (lies : Int)
include eb hbl hn hts hl in
end
theorem ins_perm {α : Type} (xs : List α) (n : Int) (y : α) : (insI xs n y).Perm (xs ++ [y]) := by
  unfold insI
  rw [List.append_assoc]
  refine List.perm_append_comm_assoc _ _ _ |>.trans ?_
  rw [List.take_append_drop]
  exact List.perm_append_comm
theorem ins_mapG {α β : Type} (f : α → β) (xs : List α) (a : Int) (x : α) : (insI xs a x).map f = insI (xs.map f) a (f x) := by
  unfold insI
  rw [List.map_append, List.map_append, List.map_take, List.map_drop]
  rfl
theorem b2n_nn (z : Bool) : 0 ≤ b2n z ∧ b2n z ≤ 1 := by cases z <;> decide
end PD
set_option linter.all false
set_option maxRecDepth 100000
set_option maxHeartbeats 0
set_option autoImplicit false
namespace PD
open PySem L2
inductive Pl where
  | lf (ms : List Int)
  | tr (m : Int) (b g : Pl)
theorem k_allT {Γ : List Sl} {fr : Bool} {α : Type} (xs : List α) : kAll Γ [.d fr (.list (xs.map fun _ => PyData.bool true))] = .val (.d true (.bool true)) := by
  have e : xs.map (fun _ => PyData.bool true) = (xs.map fun _ => true).map PyData.bool := by rw [List.map_map]; rfl
  have b : ∀ bs : List Bool, boolsOf (bs.map PyData.bool) = some bs := fun bs => by
    induction bs with
    | nil => rfl
    | cons x r ih => simp [boolsOf, ih]
  unfold kAll
  show ((R.ofO (boolsOf _)).bind _) = _
  rw [e, b]
  show R.val (AV.d true (.bool ((xs.map fun _ => true).all id))) = _
  congr 3
  simp
end PD
set_option linter.all false
set_option maxRecDepth 100000
set_option maxHeartbeats 0
set_option autoImplicit false
namespace PD
open PySem L2
end PD
set_option linter.all false
set_option maxRecDepth 100000
set_option maxHeartbeats 0
set_option autoImplicit false
namespace PD
open PySem L2
def room (lies : Int) : List (Int × Int) → Int
  | [] => 0
  | z :: st => (lies + 1 - z.2) + room lies st
end PD
set_option linter.all false
set_option maxRecDepth 100000
set_option maxHeartbeats 0
set_option autoImplicit false
namespace PD
open PySem L2
end PD
set_option linter.all false
set_option maxRecDepth 100000
set_option autoImplicit false
namespace PD
open PySem L2
end PD
set_option linter.all false
set_option maxRecDepth 100000
set_option maxHeartbeats 0
set_option autoImplicit false
namespace PD
open PySem L2
end PD
set_option linter.all false
set_option maxRecDepth 100000
set_option maxHeartbeats 0
set_option autoImplicit false
namespace PDW
open PySem L2 PD
structure NKey {κ : Type} (kD : κ → PyData) : Prop where
  ok : ∀ k, nkOk (kD k) = true
  inj : ∀ a b, nkD (kD a) = nkD (kD b) → a = b
  eq : ∀ a, eqN (kD a) (kD a) = true
section
variable {κ ω : Type} {kD : κ → PyData} {vD : ω → PyData}
abbrev nD (kD : κ → PyData) (vD : ω → PyData) (l : List (κ × ω)) : List (PyData × PyData) := l.map fun z => (kD z.1, vD z.2)
variable {f g : DF} {Γ Γ1 Γ2 : List Sl} {fr fr2 : Bool} {m : Nat}
end
end PDW
set_option linter.all false
set_option maxRecDepth 100000
set_option autoImplicit false
namespace PD
open PySem L2
end PD
set_option linter.all false
set_option maxRecDepth 100000
set_option autoImplicit false
namespace PD
open PySem L2
end PD
set_option linter.all false
set_option maxRecDepth 100000
set_option autoImplicit false
namespace PD
open PySem L2
end PD
set_option linter.all false
set_option maxRecDepth 100000
set_option autoImplicit false
namespace PD
open PySem L2
end PD
set_option linter.all false
set_option maxRecDepth 100000
set_option autoImplicit false
namespace PD
open PySem L2
end PD
set_option linter.all false
set_option maxRecDepth 100000
set_option autoImplicit false
namespace PD
open PySem L2
section
variable {Γ Γ1 Γ2 Γ3 : List Sl} {f g h : DF} {b r s : DS} {P : Fw → List Sl → Prop} {i j m : Nat} {ds es : List PyData} {fr : Bool} {a a2 : AV}
end
end PD
set_option linter.all false
set_option maxRecDepth 100000
set_option maxHeartbeats 0
set_option autoImplicit false
namespace PDW
open PySem L2 PD
open PySem.W (dataLt dataLe alike)
structure TKey {κ : Type} [DecidableEq κ] (kD : κ → PyData) : Prop where
  eq : ∀ a b, eqK (kD a) (kD b) = decide (a = b)
  ok : ∀ a, kOk .t (kD a) = true
  tp : ∀ a, ∃ xs, kD a = .tuple xs
  fl : ∀ a, flat (kD a) = true
section
variable {κ ω : Type} [DecidableEq κ] {kD : κ → PyData} {vD : ω → PyData} {Γ Γ1 Γ2 : List Sl} {f g : DF} {fr fr2 : Bool} {m : Nat}
end
end PDW
set_option linter.all false
set_option maxRecDepth 100000
set_option maxHeartbeats 0
set_option autoImplicit false
namespace PD
open PySem L2 PDW
open PySem.W (dataLt dataLe alike)
end PD
set_option linter.all false
set_option maxRecDepth 100000
set_option maxHeartbeats 0
set_option autoImplicit false
namespace PD
open PySem L2 PDW
section
variable {Γ Γ1 Γ2 : List Sl} {f g fe : DF} {k : DA} {cl : List (Str × List Str)} {c n : Str} {fr fr2 : Bool} {m : List Ar → R (Rs × List Sl)} {ms : List Bool} {dds : List PyData} {as : List AV} {ars : List Ar} {r : Rs} {Z : List Sl} {b : DS} {P : Fw → List Sl → Prop} {i : Nat}
end
end PD
set_option linter.all false
set_option maxRecDepth 100000
set_option maxHeartbeats 0
set_option autoImplicit false
namespace PD
open PySem L2
abbrev tl (s : Str) : List Nat := s.cps.toList
theorem str_ext {a b : Str} (h : tl a = tl b) : a = b := by
  cases a; cases b
  simp only [tl] at h
  rw [Array.toList_inj.mp h]
theorem tl_app (a b : Str) : tl (a ++ b) = tl a ++ tl b := by
  show (a.cps ++ b.cps).toList = _
  rw [Array.toList_append]
theorem len_tl (a : Str) : a.length = (tl a).length := by
  show a.cps.size = _
  rw [Array.length_toList]
theorem len_app (a b : Str) : (a ++ b).length = a.length + b.length := by rw [len_tl, tl_app, List.length_append, ← len_tl, ← len_tl]
def AsOk (s : Str) : Prop := ∀ c ∈ tl s, c < 1000
theorem AsOk.app {a b : Str} (h : AsOk a) (h2 : AsOk b) : AsOk (a ++ b) := fun c hc => by
  rw [tl_app] at hc
  rcases List.mem_append.mp hc with h3 | h3
  · exact h c h3
  · exact h2 c h3
theorem AsOk.ok {a : Str} (h : AsOk a) : PyData.strOk a = true := by
  unfold PyData.strOk
  rw [← Array.all_toList, List.all_eq_true]
  intro c hc
  have := h c hc
  exact decide_eq_true (by omega)
theorem k_eqTx {Γ : List Sl} {f1 f2 : Bool} {a b : Str} (h1 : AsOk a) (h2 : AsOk b) : kEq Γ (.d f1 (.str a)) (.d f2 (.str b)) = .val (decide (a = b)) := k_eqS h1.ok h2.ok
theorem len_sz {n : Nat} (h : n ≤ 100000) : decide (n ≤ sizeLine) = true := decide_eq_true (Nat.le_trans h (by decide))
section
variable {Γ Γ1 Γ2 Γ3 : List Sl} {f g : DF} {fr fr2 : Bool} {x y : Str}
theorem e_addS (h1 : f Γ = .val (.d fr (.str x), Γ1)) (h2 : g Γ1 = .val (.d fr2 (.str y), Γ2)) (h : x.length + y.length ≤ 100000) : dAdd f g Γ = .val (.d true (.str (x ++ y)), Γ2) := by
  unfold dAdd
  rw [h1, bind_val, h2, bind_val]
  show (gq _ _).bind _ = _
  rw [gq_of _ (len_sz h)]
  rfl
theorem e_ixStr {i : Int} {c : Nat} (h1 : f Γ = .val (.d fr (.str x), Γ1)) (h2 : g Γ1 = .val (.d fr2 (.int i), Γ2)) (h3 : atI (tl x) i = some c) (h : x.length ≤ 100000) : dIxS f g Γ = .val (.d true (.str ⟨#[c]⟩), Γ2) := by
  unfold dIxS
  rw [h1, bind_val, h2, bind_val]
  show ((R.ofO (atI (tl x) i)).bind _).bind _ = _
  rw [h3, ofO_some, bind_val, gq_of _ (len_sz h)]
  rfl
theorem e_cutStr {lo hi : DO} {l u : Option Int} (h1 : f Γ = .val (.d fr (.str x), Γ1)) (h2 : lo Γ1 = .val (l, Γ2)) (h3 : hi Γ2 = .val (u, Γ3)) (h : x.length ≤ 100000) : dCutS f lo hi Γ = .val (.d true (.str (cutS x l u)), Γ3) := by
  unfold dCutS
  rw [h1, bind_val, h2, bind_val, h3, bind_val]
  show (gq _ _).bind _ = _
  rw [gq_of _ (len_sz h)]
  rfl
theorem o_none : oNone Γ = .val (none, Γ) := rfl
theorem cut_take {n : Nat} : tl (cutS x none (some (n : Int))) = (tl x).take n := by
  show (List.take _ (List.drop _ _)).toArray.toList = _
  rw [HT.sIx_none, HT.sIx_nat, List.drop_zero, Nat.sub_zero, len_tl]
  by_cases h : n ≤ (tl x).length
  · rw [Nat.min_eq_left h]
  · rw [Nat.min_eq_right (by omega), List.take_length, List.take_of_length_le (by omega)]
theorem cut_drop {n : Nat} : tl (cutS x (some (n : Int)) none) = (tl x).drop n := by
  show (List.take _ (List.drop _ _)).toArray.toList = _
  rw [HT.sIx_none, HT.sIx_nat, len_tl]
  by_cases h : n ≤ (tl x).length
  · rw [Nat.min_eq_left h, List.take_of_length_le (by rw [List.length_drop]; exact Nat.le_refl _)]
  · rw [Nat.min_eq_right (by omega), List.drop_of_length_le (Nat.le_refl _), List.drop_of_length_le (by omega)]
    simp
theorem e_joinL {ys : List Str} {a : AV} (h1 : f Γ = .val (.d fr (.str x), Γ1)) (h2 : g Γ1 = .val (a, Γ2)) (h3 : rdD Γ2 a = some (.list (ys.map PyData.str))) (h : (ys.map (·.length)).sum + ys.length * x.length ≤ 16777216) : dJoin f g Γ = .val (.d true (.str (Str.join x ys)), Γ2) := by
  unfold dJoin
  rw [h1, bind_val]
  show (R.ofO (some x)).bind _ = _
  rw [ofO_some, bind_val, h2, bind_val, h3, ofO_some, bind_val]
  show (R.ofO (some (ys.map PyData.str))).bind _ = _
  rw [ofO_some, bind_val, strsO_map, ofO_some, bind_val, decide_eq_true h, req_true, bind_val, TL.join_eq]
end
def IsNm (s : Str) : Prop := 1 ≤ s.length ∧ s.length ≤ 8 ∧ ∀ c ∈ tl s, 97 ≤ c ∧ c < 123
def ALPH : Str := "abcdefghijklmnopqrstuvwxyz"
theorem alph_tl : tl ALPH = (List.range 26).map (97 + ·) := by decide +kernel
theorem alph_len : ALPH.length = 26 := by decide +kernel
theorem alph_at {i : Int} (h0 : 0 ≤ i) (h1 : i < 26) : atI (tl ALPH) i = some (97 + i.toNat) := by
  obtain ⟨k, rfl⟩ : ∃ k : Nat, i = (k : Int) := ⟨i.toNat, by omega⟩
  refine atI_nat ?_
  rw [alph_tl, List.getElem?_map, List.getElem?_range (by omega)]
  rfl
def Ltr (l : List Nat) : Prop := ∀ c ∈ l, 97 ≤ c ∧ c < 123
theorem Ltr.app {a b : List Nat} (h : Ltr a) (h2 : Ltr b) : Ltr (a ++ b) := fun c hc => (List.mem_append.mp hc).elim (h c) (h2 c)
theorem Ltr.one {k : Nat} (h : k < 26) : Ltr [97 + k] := fun c hc => by have := List.mem_singleton.mp hc; omega
theorem Ltr.sub {a b : List Nat} (h : Ltr b) (h2 : ∀ c ∈ a, c ∈ b) : Ltr a := fun c hc => h c (h2 c hc)
theorem IsNm.as {s : Str} (h : IsNm s) : AsOk s := fun c hc => by have := h.2.2 c hc; omega
theorem word_q (f : Fd) : ∃ (s : Str) (f' : Fd), u_qword [.c (.feed f)] = .val (.d (.str s), [.io (.feed f')]) ∧ IsNm s := by
  have key : Ok (u_qword [.c (.feed f)]) fun z => ∃ (s : Str) (f' : Fd), z = (.d (.str s), [.io (.feed f')]) ∧ IsNm s := by
    refine ok_run rfl ?_
    unfold b_qword
    apply w_set
    · exact e_C
    obtain ⟨n, f1, hn, n0, n1⟩ := take_q f 8 (by decide) (by decide)
    refine w_forR (fr := true) (N := 1 + n) (Γ1 := [.io (.feed f1), .dat true (.str ""), .un]) (S := Str × Fd) (fun i s => s.1.length = i ∧ Ltr (tl s.1)) (fun s => [.io (.feed s.2), .dat true (.str s.1), .un]) ("", f1) ?_ rfl ⟨rfl, fun c hc => by cases hc⟩ ?_ ?_
    · refine i_range1 (fr := true) ?_ (cRng_of (by decide) (by decide) (by omega) (by omega))
      exact e_add e_C (by apply_mod_cast hn)
    · rintro i ⟨s, f⟩ hi ⟨hs, hl⟩
      dsimp only at hs hl ⊢
      refine ⟨_, rfl, ?_⟩
      obtain ⟨t, f2, ht, t0, t1⟩ := take_q f 26 (by decide) (by decide)
      apply w_set
      · apply e_addS
        · exact e_var rfl
        · apply e_ixStr (x := ALPH)
          · exact e_C
          · apply_mod_cast ht
          · exact alph_at t0 t1
          · rw [alph_len]; decide
        · rw [hs]; show i + 1 ≤ _; omega
      refine w_nil ⟨(s ++ ⟨#[97 + t.toNat]⟩, f2), rfl, ?_, ?_⟩
      · dsimp only; rw [len_app, hs]; rfl
      · dsimp only
        rw [tl_app]
        exact hl.app (Ltr.one (by omega))
    · rintro ⟨s, f⟩ ⟨hs, hl⟩
      dsimp only at hs hl ⊢
      apply w_ret
      · exact e_var rfl
      exact ⟨_, _, rfl, rfl, s, f, rfl, by omega, by omega, hl⟩
  obtain ⟨z, e, s, f', rfl, h⟩ := key
  exact ⟨s, f', e, h⟩
structure Nm where
  s : Str
  ok : PyData.strOk s = true
deriving DecidableEq
def nmD (t : Nm) : PyData := .str t.s
theorem nm_ext {a b : Nm} (h : a.s = b.s) : a = b := by cases a; cases b; cases h; rfl
theorem eqt_nm : EqT nmD 0 := ⟨fun x => x.ok, fun _ => Nat.le_refl _, fun x y => by
  show (x.s == y.s) = _
  by_cases h : x = y
  · subst h; simp
  · rw [decide_eq_false h]
    exact beq_eq_false_iff_ne.mpr fun e => h (nm_ext e)⟩
theorem nm_list : ∀ (xs : List Str), (∀ x ∈ xs, PyData.strOk x = true) → ∃ ys : List Nm, ys.map (·.s) = xs
  | [], _ => ⟨[], rfl⟩
  | x :: xs, h => by
    obtain ⟨ys, e⟩ := nm_list xs fun y hy => h y (List.mem_cons_of_mem _ hy)
    exact ⟨⟨x, h x List.mem_cons_self⟩ :: ys, by rw [List.map_cons, e]⟩
theorem nm_mem {s : Str} (hs : PyData.strOk s = true) {xs : List Str} (hx : ∀ x ∈ xs, PyData.strOk x = true) : ∃ ys : List Nm, ys.map nmD = xs.map PyData.str ∧ ((⟨s, hs⟩ : Nm) ∈ ys ↔ s ∈ xs) := by
  obtain ⟨ys, e⟩ := nm_list xs hx
  refine ⟨ys, ?_, ?_⟩
  · rw [← e, List.map_map]; rfl
  · rw [← e, List.mem_map]
    constructor
    · intro h; exact ⟨_, h, rfl⟩
    · rintro ⟨y, hy, e2⟩
      have : (⟨s, hs⟩ : Nm) = y := nm_ext e2.symm
      rw [this]; exact hy
theorem k_inStrs {Γ : List Sl} {a b : AV} {s : Str} {xs : List Str} (hs : PyData.strOk s = true) (hx : ∀ x ∈ xs, PyData.strOk x = true) (h1 : rdD Γ a = some (.str s)) (h2 : rdD Γ b = some (.list (xs.map PyData.str))) : kInB Γ a b = .val (decide (s ∈ xs)) := by
  obtain ⟨ys, e, hm⟩ := nm_mem hs hx
  rw [← e] at h2
  rw [k_inT eqt_nm (by decide) (x := ⟨s, hs⟩) h1 h2]
  simp only [hm]
end PD
set_option linter.all false
set_option maxRecDepth 100000
set_option maxHeartbeats 0
set_option autoImplicit false
namespace PD
open PySem L2
theorem pigeon {α : Type} [DecidableEq α] : ∀ (xs bad : List α), xs.Nodup → (∀ x ∈ xs, x ∈ bad) → xs.length ≤ bad.length
  | [], _, _, _ => Nat.zero_le _
  | x :: xs, bad, h, hs => by
    rw [List.nodup_cons] at h
    have hx := hs x List.mem_cons_self
    have h1 := pigeon xs (bad.erase x) h.2 fun y hy => by
      refine (List.mem_erase_of_ne ?_).mpr (hs y (List.mem_cons_of_mem _ hy))
      exact fun e => h.1 (e ▸ hy)
    have h2 := List.length_erase_of_mem hx
    have h3 := List.length_pos_of_mem hx
    rw [List.length_cons]
    omega
def cand (w : Str) (t : Nat) : Str := cutS ((⟨#[97 + t / 26]⟩ ++ ⟨#[97 + t % 26]⟩) ++ w) none (some (8 : Nat))
theorem cand_tl (w : Str) (t : Nat) : tl (cand w t) = (97 + t / 26) :: (97 + t % 26) :: (tl w).take 6 := by
  unfold cand
  rw [cut_take, tl_app, tl_app]
  rfl
theorem cand_inj {w : Str} {t u : Nat} (h : cand w t = cand w u) : t = u := by
  have h2 := congrArg tl h
  rw [cand_tl, cand_tl] at h2
  have h3 := (List.cons.inj h2).1
  have h4 := (List.cons.inj (List.cons.inj h2).2).1
  omega
theorem cand_nm {w : Str} (h : IsNm w) {t : Nat} (ht : t < 676) : IsNm (cand w t) := by
  refine ⟨?_, ?_, ?_⟩
  · rw [len_tl, cand_tl]; simp
  · rw [len_tl, cand_tl]; simp; omega
  · rw [cand_tl]
    intro c hc
    rcases List.mem_cons.mp hc with rfl | hc
    · omega
    · rcases List.mem_cons.mp hc with rfl | hc
      · omega
      · exact h.2.2 c (List.mem_of_mem_take hc)
theorem cand_few {w : Str} {bad : List Str} {t : Nat} (h : ∀ j, j < t → cand w j ∈ bad) : t ≤ bad.length := by
  have h1 : ((List.range t).map (cand w)).Nodup := by
    rw [List.nodup_iff_pairwise_ne, List.pairwise_map]
    exact (List.nodup_iff_pairwise_ne.mp List.nodup_range).imp fun h e => h (cand_inj e)
  have h2 := pigeon _ bad h1 fun x hx => by
    obtain ⟨j, hj, rfl⟩ := List.mem_map.mp hx
    exact h j (List.mem_range.mp hj)
  simpa using h2
theorem k_inStrsT {Γ : List Sl} {a : AV} {fr : Bool} {s : Str} {xs : List Str} (hs : PyData.strOk s = true) (hx : ∀ x ∈ xs, PyData.strOk x = true) (h1 : rdD Γ a = some (.str s)) : kInB Γ a (.d fr (.tuple (xs.map PyData.str))) = .val (decide (s ∈ xs)) := by
  obtain ⟨ys, e, hm⟩ := nm_mem hs hx
  rw [← e]
  have h2 : kInB Γ a (.d fr (.tuple (ys.map nmD))) = .val (decide ((⟨s, hs⟩ : Nm) ∈ ys)) := by
    unfold kInB dicA
    simp only
    have h3 : rdD Γ (.d fr (.tuple (ys.map nmD))) = some (.tuple (ys.map nmD)) := rfl
    unfold kIn
    rw [h1, h3]
    show gq (flD (nmD ⟨s, hs⟩) && (ys.map nmD).all flD) ((ys.map nmD).any fun z => PyData.eqv z (nmD ⟨s, hs⟩)) = _
    have h4 : (ys.map nmD).all flD = true := by
      rw [List.all_eq_true]
      intro d hd
      obtain ⟨n, _, rfl⟩ := List.mem_map.mp hd
      rfl
    rw [h4, any_T eqt_nm]
    rfl
  rw [h2]
  simp only [hm]
def GoodN (s : Str) : Prop := IsNm s ∧ s ≠ "none" ∧ s ≠ "open"
def bad2 : List Str := ["none", "open"]
theorem bad2_ok : ∀ x ∈ bad2, PyData.strOk x = true := by decide +kernel
theorem names_q (f : Fd) (m : Nat) (hm : m ≤ 40) : ∃ (ns : List Str) (f' : Fd), u_qnames [.c (.feed f), .d (.int (m : Nat))] = .val (.c (.lst (ns.map PyData.str)), [.io (.feed f'), .un]) ∧ ns.length = m ∧ ns.Nodup ∧ ∀ n ∈ ns, GoodN n := by
  have key : Ok (u_qnames [.c (.feed f), .d (.int (m : Nat))]) fun z => ∃ (ns : List Str) (f' : Fd), z = (.c (.lst (ns.map PyData.str)), [.io (.feed f'), .un]) ∧ ns.length = m ∧ ns.Nodup ∧ ∀ n ∈ ns, GoodN n := by
    refine ok_run rfl ?_
    unfold b_qnames
    apply w_set
    · exact e_C
    obtain ⟨way, f1, hw, w0, w1⟩ := take_q f 2 (by decide) (by decide)
    apply w_set
    · apply_mod_cast hw
    obtain ⟨base, f2, hbs, nb⟩ := word_q f1
    apply w_set
    · apply_mod_cast hbs
    obtain ⟨at', f3, ha, a0, a1⟩ := take_q f2 (base.length : Nat) (by have := nb.1; omega) (by have := nb.2.1; omega)
    apply w_set
    · apply e_xd
      apply x_callE
      · apply a_cons
        · exact e_varI rfl
        · apply a_cons
          · apply e_B
            · exact a_cons (e_var rfl) a_nil
            · unfold kLen
              simp only [rdD]
              exact gq_of _ (len_sz (by have := nb.2.1; omega))
          · exact a_nil
      · rfl
      · rfl
      · rfl
      · rfl
      · exact ha
      · rfl
      · rfl
    obtain ⟨at_, rfl⟩ : ∃ k : Nat, at' = (k : Int) := ⟨at'.toNat, by omega⟩
    apply w_setX
    · exact x_c (c_l (n_lst a_nil rfl rfl))
    refine w_forR (fr := true) (N := (m : Nat)) (Γ1 := [.io (.feed f3), .dat true (.int (m : Nat)), .dat true (.str ALPH), .dat true (.int way), .dat true (.str base), .dat true (.int (at_ : Nat)), .own (.lst []), .un, .un, .un, .un]) (S := List Str × Fd)
      (fun i s => s.1.length = i ∧ s.1.Nodup ∧ ∀ n ∈ s.1, GoodN n)
      (fun s => [.io (.feed s.2), .dat true (.int (m : Nat)), .dat true (.str ALPH), .dat true (.int way), .dat true (.str base), .dat true (.int (at_ : Nat)), .own (.lst (s.1.map PyData.str)), .un, .un, .un, .un]) ([], f3) ?_ rfl ⟨rfl, List.nodup_nil, by simp⟩ ?_ ?_
    · exact i_range1 (fr := true) (e_var rfl) (cRng_of (by decide) (by decide) (by omega) (by omega))
    · rintro i ⟨ns, f4⟩ hi ⟨hl, hnd, hg⟩
      dsimp only at hl hnd hg ⊢
      refine ⟨_, rfl, ?_⟩
      have hbl : base.length ≤ 100000 := by have := nb.2.1; omega
      have hi26 : ((i : Int) % 26) < 26 := Int.emod_lt_of_pos _ (by decide)
      have hi26' : 0 ≤ ((i : Int) % 26) := Int.emod_nonneg _ (by decide)
      apply w_set (fr := true) (d := .str ((cutS base none (some (at_ : Nat)) ++ ⟨#[97 + ((i : Int) % 26).toNat]⟩) ++ cutS base (some ((at_ + 1 : Nat) : Int)) none)) (Γ1 := [.io (.feed f4), .dat true (.int (m : Nat)), .dat true (.str ALPH), .dat true (.int way), .dat true (.str base), .dat true (.int (at_ : Nat)), .own (.lst (ns.map PyData.str)), .dat true (.int (i : Nat)), .un, .un, .un])
      · have l1 : (cutS base none (some (at_ : Nat))).length ≤ 8 := Nat.le_trans (cutS_length _ _ _) nb.2.1
        have l2 : (cutS base (some ((at_ + 1 : Nat) : Int)) none).length ≤ 8 := Nat.le_trans (cutS_length _ _ _) nb.2.1
        have l3 : (⟨#[97 + ((i : Int) % 26).toNat]⟩ : Str).length = 1 := rfl
        apply e_addS
        · apply e_addS
          · apply e_cutStr
            · exact e_var rfl
            · exact o_none
            · exact o_some (e_var rfl)
            · exact hbl
          · apply e_ixStr (x := ALPH)
            · exact e_var rfl
            · apply e_I
              · exact e_var rfl
              · exact e_C
              · exact k_mod (modP (by decide))
            · exact alph_at hi26' hi26
            · rw [alph_len]; decide
          · omega
        · apply e_cutStr
          · exact e_var rfl
          · apply o_some
            exact e_add (i := (at_ : Int)) (j := 1) (e_var rfl) e_C
          · exact o_none
          · exact hbl
        · rw [len_app]; omega
      have nm1 : IsNm ((cutS base none (some (at_ : Nat)) ++ ⟨#[97 + ((i : Int) % 26).toNat]⟩) ++ cutS base (some ((at_ + 1 : Nat) : Int)) none) := by
        have hb2 := nb.2.1
        rw [len_tl] at hb2
        have ht : tl ((cutS base none (some (at_ : Nat)) ++ ⟨#[97 + ((i : Int) % 26).toNat]⟩) ++ cutS base (some ((at_ + 1 : Nat) : Int)) none) = (tl base).take at_ ++ [97 + ((i : Int) % 26).toNat] ++ (tl base).drop (at_ + 1) := by
          rw [tl_app, tl_app, cut_take, cut_drop]
        refine ⟨?_, ?_, ?_⟩
        · rw [len_tl, ht, List.length_append, List.length_append, List.length_singleton]; omega
        · have : at_ < (tl base).length := by rw [← len_tl]; omega
          rw [len_tl, ht, List.length_append, List.length_append, List.length_singleton, List.length_take, List.length_drop]; omega
        · rw [ht]
          have hb : Ltr (tl base) := nb.2.2
          exact ((hb.sub fun c => List.mem_of_mem_take).app (Ltr.one (by omega))).app (hb.sub fun c => List.mem_of_mem_drop)
      refine w_ifJ (S := Str × Fd) (fun s => IsNm s.1) (fun s => [.io (.feed s.2), .dat true (.int (m : Nat)), .dat true (.str ALPH), .dat true (.int way), .dat true (.str base), .dat true (.int (at_ : Nat)), .own (.lst (ns.map PyData.str)), .dat true (.int (i : Nat)), .dat true (.str s.1), .un, .un]) (z := decide (way = 0)) (t_tst (e_cmp (e_var rfl) e_C k_eqI)) ?_ ?_ ?_
      · intro _
        obtain ⟨w, f5, hw2, nw⟩ := word_q f4
        apply w_set
        · apply_mod_cast hw2
        exact w_nil ⟨(w, f5), rfl, nw⟩
      · intro _
        exact w_nil ⟨(_, f4), rfl, nm1⟩
      rintro ⟨w, f5⟩ nw
      dsimp only at nw ⊢
      apply w_set
      · exact e_C
      apply w_set
      · exact e_frz (e_var rfl)
      have hnsok : ∀ x ∈ ns, PyData.strOk x = true := fun x hx => (hg x hx).1.as.ok
      refine w_whileS (S := Nat × Str) (fun s => s.1 ≤ 43 ∧ IsNm s.2 ∧ (0 < s.1 → s.2 = cand w (s.1 - 1)) ∧ ∀ j, j + 1 < s.1 → cand w j ∈ ns ++ bad2) (fun s => 50 - s.1)
        (fun s => [.io (.feed f5), .dat true (.int (m : Nat)), .dat true (.str ALPH), .dat true (.int way), .dat true (.str base), .dat true (.int (at_ : Nat)), .own (.lst (ns.map PyData.str)), .dat true (.int (i : Nat)), .dat true (.str w), .dat true (.int (s.1 : Nat)), .dat true (.str s.2)]) (0, w) rfl ⟨by dsimp only; omega, nw, fun h => absurd h (Nat.lt_irrefl 0), fun j h => absurd h (by omega)⟩ (show 50 - 0 < 1000000 by decide) ?_
      rintro ⟨t, nm⟩ ⟨ht, hnm, hc, hall⟩
      dsimp only at ht hnm hc hall ⊢
      refine ⟨_, _, t_or (z := decide (nm ∈ ns)) (z2 := decide (nm ∈ bad2)) (t_tst (e_cmp (e_var rfl) (e_varO rfl) (k_inStrs hnm.as.ok hnsok rfl (rd_own rfl)))) fun _ => t_tst (e_cmp (e_var rfl) (e_tup (a_cons e_C (a_cons e_C a_nil)) rfl rfl) (k_inStrsT (xs := bad2) hnm.as.ok bad2_ok rfl)), fun hz => ?_, fun hz => ?_⟩
      · have hin : nm ∈ ns ++ bad2 := by
          rw [Bool.or_eq_true, decide_eq_true_eq, decide_eq_true_eq] at hz
          exact List.mem_append.mpr hz
        have hall2 : ∀ j, j < t → cand w j ∈ ns ++ bad2 := fun j hj => by
          by_cases h : j + 1 < t
          · exact hall j h
          · have := hc (by omega)
            have e : j = t - 1 := by omega
            rw [e, ← this]; exact hin
        have hlen := cand_few hall2
        rw [List.length_append] at hlen
        have : bad2.length = 2 := rfl
        have ht2 : t ≤ 41 := by omega
        have d1 : ((t : Int) / 26) < 26 := by omega
        have d2 : 0 ≤ ((t : Int) / 26) := by omega
        have m1 : ((t : Int) % 26) < 26 := Int.emod_lt_of_pos _ (by decide)
        have m2 : 0 ≤ ((t : Int) % 26) := Int.emod_nonneg _ (by decide)
        have ec : cutS ((⟨#[97 + ((t : Int) / 26).toNat]⟩ ++ ⟨#[97 + ((t : Int) % 26).toNat]⟩) ++ w) none (some (8 : Int)) = cand w t := by
          have h1 : ((t : Int) / 26).toNat = t / 26 := by omega
          have h2 : ((t : Int) % 26).toNat = t % 26 := by omega
          rw [h1, h2]; rfl
        apply w_set (fr := true) (d := .str (cand w t)) (Γ1 := [.io (.feed f5), .dat true (.int (m : Nat)), .dat true (.str ALPH), .dat true (.int way), .dat true (.str base), .dat true (.int (at_ : Nat)), .own (.lst (ns.map PyData.str)), .dat true (.int (i : Nat)), .dat true (.str w), .dat true (.int (t : Nat)), .dat true (.str nm)])
        · rw [← ec]
          have nw2 := nw.2.1
          have l1 : (⟨#[97 + ((t : Int) / 26).toNat]⟩ : Str).length = 1 := rfl
          have l2 : (⟨#[97 + ((t : Int) % 26).toNat]⟩ : Str).length = 1 := rfl
          apply e_frz
          apply e_cutStr
          · apply e_addS
            · apply e_addS
              · apply e_ixStr (x := ALPH)
                · exact e_var rfl
                · apply e_I
                  · exact e_var rfl
                  · exact e_C
                  · exact k_div (divP (by decide) (by decide))
                · exact alph_at d2 d1
                · rw [alph_len]; decide
              · apply e_ixStr (x := ALPH)
                · exact e_var rfl
                · apply e_I
                  · exact e_var rfl
                  · exact e_C
                  · exact k_mod (modP (by decide))
                · exact alph_at m2 m1
                · rw [alph_len]; decide
              · omega
            · exact e_var rfl
            · rw [len_app]; omega
          · exact o_none
          · exact o_some e_C
          · rw [len_app, len_app]; omega
        apply w_set
        · exact e_add (e_var rfl) e_C
        refine w_nil ⟨(t + 1, cand w t), rfl, ⟨by dsimp only; omega, cand_nm nw (by omega), fun _ => rfl, fun j hj => hall2 j (by dsimp only at hj; omega)⟩, by dsimp only; omega⟩
      · rw [Bool.or_eq_false_iff, decide_eq_false_iff_not, decide_eq_false_iff_not] at hz
        apply w_expr
        · apply e_app
          · rfl
          · exact e_var rfl
          · rfl
          · exact ltS_map (by omega)
        refine w_nil ⟨(ns ++ [nm], f5), by rw [List.map_append]; rfl, by simp [hl], ?_, ?_⟩
        · dsimp only
          rw [List.nodup_append]
          exact ⟨hnd, by simp, fun a ha b hb e => hz.1 (by
            have hb := List.mem_singleton.mp hb
            rw [← hb, ← e]; exact ha)⟩
        · intro n hn
          rcases List.mem_append.mp hn with h | h
          · exact hg n h
          · have := List.mem_singleton.mp h
            subst this
            exact ⟨hnm, fun e => hz.2 (by rw [e]; decide +kernel), fun e => hz.2 (by rw [e]; decide +kernel)⟩
    · rintro ⟨ns, f4⟩ ⟨hl, hnd, hg⟩
      dsimp only at hl hnd hg ⊢
      apply w_retO
      · rfl
      exact ⟨_, _, rfl, rfl, ns, f4, rfl, by simpa using hl, hnd, hg⟩
  obtain ⟨z, e, ns, f', rfl, h⟩ := key
  exact ⟨ns, f', e, h⟩
end PD
set_option linter.all false
set_option maxRecDepth 100000
set_option maxHeartbeats 0
set_option autoImplicit false
namespace PDW
open PySem L2 PD
theorem w_n80 {b : DS} {Γ Γ' : List Sl} {P : Fw → List Sl → Prop} (e : Γ = Γ') (h : PD.W b Γ' P) : PD.W b Γ P := e ▸ h
abbrev Rt := Str × Int × List Str
def rtD (r : Rt) : PyData := .tuple [.str r.1, .int r.2.1, .tuple (r.2.2.map .str)]
def TEN30 : Int := 10 ^ 30
structure RsOk (rs : List Rt) : Prop where
  nd : (rs.map (·.1)).Nodup
  nm : ∀ r ∈ rs, GoodN r.1 ∧ 1 ≤ r.2.1 ∧ r.2.1 ≤ TEN30
  el : ∀ (k : Nat) (r : Rt), rs[k]? = some r → r.2.2.Nodup ∧ ∀ e ∈ r.2.2, e ∈ (rs.take k).map (·.1)
  l1 : 1 ≤ rs.length
  l2 : rs.length ≤ 40
theorem price80 (f : Fd) : ∃ (p : Int) (f' : Fd), u_qprice_k80 [.c (.feed f)] = .val (.d (.int p), [.io (.feed f')]) ∧ 1 ≤ p ∧ p ≤ TEN30 := by
  have key : Ok (u_qprice_k80 [.c (.feed f)]) fun z => ∃ (p : Int) (f' : Fd), z = (.d (.int p), [.io (.feed f')]) ∧ 1 ≤ p ∧ p ≤ TEN30 := by
    refine ok_run rfl ?_
    unfold b_qprice_k80
    obtain ⟨way, f1, hw, w0, w1⟩ := take_q f 4 (by decide) (by decide)
    apply w_set
    · apply_mod_cast hw
    apply w_if
    · exact t_tst (e_cmp (e_var rfl) e_C k_eqI)
    · intro _
      apply w_seqA
      apply w_ret
      · exact e_I e_C e_C (k_pow rfl)
      exact ⟨_, _, rfl, rfl, TEN30, f1, rfl, by decide, Int.le_refl _⟩
    intro _
    and_intros
    apply w_if
    · exact t_tst (e_cmp (e_var rfl) e_C rfl)
    · intro _
      apply w_seqA
      obtain ⟨a, f2, ha, a0, a1⟩ := take_q f1 12 (by decide) (by decide)
      apply w_ret
      · exact e_add e_C (by apply_mod_cast ha)
      exact ⟨_, _, rfl, rfl, 1 + a, f2, rfl, by omega, by unfold TEN30; omega⟩
    intro _
    and_intros
    apply w_set
    · exact e_C
    refine w_forR (fr := true) (N := 5) (S := Int × Fd) (fun i s => 0 ≤ s.1 ∧ s.1 < (10 ^ 6) ^ i) (fun s => [.io (.feed s.2), .dat true (.int way), .dat true (.int s.1), .un]) (0, f1) (i_range1 e_C (cRng_of (by decide) (by decide) (by omega) (by omega))) rfl ⟨Int.le_refl _, by show (0 : Int) < 1; decide⟩ ?_ ?_
    · rintro i ⟨v, g⟩ hi ⟨v0, v1⟩
      dsimp only at v0 v1 ⊢
      refine ⟨_, rfl, ?_⟩
      obtain ⟨a, f2, ha, a0, a1⟩ := take_q g (10 ^ 6) (by decide) (by decide)
      refine w_n80 (Γ' := [.io (.feed g), .dat true (.int way), .dat true (.int v), .dat true (.int (i : Nat))]) rfl ?_
      apply w_set
      · refine e_add (fr2 := true) (i := v * 10 ^ 6) (j := a) (Γ2 := [.io (.feed f2), .dat true (.int way), .dat true (.int v), .dat true (.int (i : Nat))]) (e_I (r := v * 10 ^ 6) (e_var rfl) (e_I e_C e_C (k_pow rfl)) (k_mul (mulR (by decide)))) ?_
        apply e_xd
        apply x_callE
        · exact a_cons (e_varI rfl) (a_cons (e_I e_C e_C (k_pow rfl)) a_nil)
        · rfl
        · rfl
        · rfl
        · rfl
        · exact ha
        · rfl
        · rfl
      refine w_nil ⟨(v * 10 ^ 6 + a, f2), rfl, by dsimp only; omega, ?_⟩
      dsimp only
      have e : ((10 : Int) ^ 6) ^ (i + 1) = ((10 : Int) ^ 6) ^ i * 10 ^ 6 := Int.pow_succ _ _
      rw [e]
      generalize ((10 : Int) ^ 6) ^ i = j at v1
      omega
    · rintro ⟨v, g⟩ ⟨v0, v1⟩
      dsimp only at v0 v1 ⊢
      apply w_ret
      · exact e_add e_C (e_var rfl)
      refine ⟨_, _, rfl, rfl, 1 + v, g, rfl, by omega, ?_⟩
      have e : ((10 : Int) ^ 6) ^ (5 : Int).toNat = TEN30 := by decide
      rw [e] at v1
      omega
  obtain ⟨z, e, p, f', rfl, h⟩ := key
  exact ⟨p, f', e, h⟩
end PDW
set_option linter.all false
set_option maxRecDepth 100000
set_option maxHeartbeats 0
set_option autoImplicit false
namespace PDW
open PySem L2 PD
def nm80 (ns : List Str) (x : Int) : Str := ns[x.toNat]?.getD Str.empty
theorem nm80_at {ns : List Str} {x : Int} (h0 : 0 ≤ x) (h1 : x < (ns.length : Nat)) : ns[x.toNat]? = some (nm80 ns x) := by
  unfold nm80
  rw [List.getElem?_eq_getElem (by omega)]; rfl
theorem nm80_atI {ns : List Str} {x : Int} (h0 : 0 ≤ x) (h1 : x < (ns.length : Nat)) : atI (ns.map PyData.str) x = some (.str (nm80 ns x)) := by
  obtain ⟨k, rfl⟩ : ∃ k : Nat, x = (k : Int) := ⟨x.toNat, by omega⟩
  have := nm80_at h0 h1
  rw [Int.toNat_natCast] at this
  exact at_nat this
theorem nm80_take {ns : List Str} {x : Int} {i : Nat} (h0 : 0 ≤ x) (h1 : x < (i : Nat)) (hi : i ≤ ns.length) : nm80 ns x ∈ ns.take i := by
  have h := nm80_at h0 (show x < (ns.length : Nat) by omega)
  apply List.mem_of_getElem? (i := x.toNat)
  rw [List.getElem?_take, if_pos (by omega)]
  exact h
theorem nm80_nd {ns : List Str} (hn : ns.Nodup) : ∀ {xs : List Int}, xs.Nodup → (∀ x ∈ xs, 0 ≤ x ∧ x < (ns.length : Nat)) → (xs.map (nm80 ns)).Nodup
  | [], _, _ => List.nodup_nil
  | x :: xs, h, hx => by
    rw [List.nodup_cons] at h
    rw [List.map_cons, List.nodup_cons]
    refine ⟨fun hm => ?_, nm80_nd hn h.2 fun y hy => hx y (List.mem_cons_of_mem _ hy)⟩
    obtain ⟨y, hy, e⟩ := List.mem_map.mp hm
    have a1 := hx x (by simp)
    have a2 := hx y (List.mem_cons_of_mem _ hy)
    have b1 := nm80_at a1.1 a1.2
    have b2 := nm80_at a2.1 a2.2
    rw [e] at b2
    have : y.toNat = x.toNat := by
      obtain ⟨l1, e1⟩ := List.getElem?_eq_some_iff.mp b1
      obtain ⟨l2, e2⟩ := List.getElem?_eq_some_iff.mp b2
      exact (List.getElem_inj hn).mp (e2.trans e1.symm)
    have : y = x := by omega
    exact h.1 (this ▸ hy)
abbrev nI80 (x : Nat) : PyData := .int (x : Nat)
abbrev RwO (i : Nat) (xs : List Int) : Prop := xs.Nodup ∧ ∀ x ∈ xs, 0 ≤ x ∧ x < (i : Nat)
theorem RwO.len {i : Nat} {xs : List Int} (h : RwO i xs) : xs.length ≤ i := by
  have := pigeon xs ((List.range i).map fun k => ((k : Nat) : Int)) h.1 fun x hx => by
    have := h.2 x hx
    exact List.mem_map.mpr ⟨x.toNat, List.mem_range.mpr (by omega), by omega⟩
  simpa using this
abbrev N80 (f : Fd) (m : Nat) (ns : List Str) (way : Int) (rs : List Rt) (s5 s6 s7 s8 : Sl) : List Sl := [.io (.feed f), .dat true (.int (m : Nat)), .dat true (.list (ns.map .str)), .dat true (.int way), .own (.lst (rs.map rtD)), s5, s6, s7, s8]
structure Bld (ns : List Str) (i : Nat) (rs : List Rt) : Prop where
  ln : rs.length = i
  nm : rs.map (·.1) = ns.take i
  pr : ∀ r ∈ rs, 1 ≤ r.2.1 ∧ r.2.1 ≤ TEN30
  el : ∀ (k : Nat) (r : Rt), rs[k]? = some r → r.2.2.Nodup ∧ ∀ e ∈ r.2.2, e ∈ ns.take k
theorem Bld.snoc {ns : List Str} {i : Nat} {rs : List Rt} (B : Bld ns i rs) (hi : i < ns.length) (hn : ns.Nodup) {p : Int} (p1 : 1 ≤ p) (p2 : p ≤ TEN30) {xs : List Int} (hx : RwO i xs) : Bld ns (i + 1) (rs ++ [(nm80 ns (i : Nat), p, xs.map (nm80 ns))]) := by
  have hat := nm80_at (ns := ns) (x := (i : Nat)) (by omega) (by omega)
  rw [Int.toNat_natCast] at hat
  refine ⟨by rw [List.length_append, B.ln]; rfl, ?_, fun r hr => ?_, fun k r hk => ?_⟩
  · rw [List.map_append, B.nm, List.take_succ, hat]; rfl
  · rcases List.mem_append.mp hr with h | h
    · exact B.pr r h
    · rw [List.mem_singleton.mp h]; exact ⟨p1, p2⟩
  · by_cases hki : k < i
    · rw [List.getElem?_append_left (by rw [B.ln]; exact hki)] at hk
      exact B.el k r hk
    · have hl := (List.getElem?_eq_some_iff.mp hk).1
      rw [List.length_append, B.ln, List.length_singleton] at hl
      have e : k = i := by omega
      subst e
      rw [List.getElem?_append_right (by rw [B.ln]; exact Nat.le_refl _), B.ln, Nat.sub_self] at hk
      have hk : some _ = some r := hk
      cases hk
      refine ⟨nm80_nd hn hx.1 fun x h => ?_, fun e he => ?_⟩
      · have := hx.2 x h
        exact ⟨this.1, by omega⟩
      · obtain ⟨x, hxm, rfl⟩ := List.mem_map.mp he
        have := hx.2 x hxm
        exact nm80_take this.1 this.2 (by omega)
theorem named80 (f : Fd) : ∃ (rs : List Rt) (f' : Fd), u_qnamed [.c (.feed f)] = .val (.c (.lst (rs.map rtD)), [.io (.feed f')]) ∧ RsOk rs := by
  have key : Ok (u_qnamed [.c (.feed f)]) fun z => ∃ (rs : List Rt) (f' : Fd), z = (.c (.lst (rs.map rtD)), [.io (.feed f')]) ∧ RsOk rs := by
    refine ok_run rfl ?_
    unfold b_qnamed
    obtain ⟨m0, f1, hm, a0, a1⟩ := take_q f 40 (by decide) (by decide)
    apply w_set
    · exact e_add e_C (by apply_mod_cast hm)
    obtain ⟨m, hmm⟩ : ∃ m : Nat, 1 + m0 = (m : Int) := ⟨(1 + m0).toNat, by omega⟩
    rw [hmm]
    obtain ⟨ns, f2, hns, nl, nnd, ng⟩ := names_q f1 m (by omega)
    apply w_set
    · exact e_x (x_callE (a_cons (e_varI rfl) (a_cons (e_var rfl) a_nil)) rfl rfl rfl rfl hns rfl rfl) rfl
    obtain ⟨way, f3, hw, w0, w1⟩ := take_q f2 3 (by decide) (by decide)
    apply w_set
    · exact e_x (x_callE (a_cons (e_varI rfl) (a_cons e_C a_nil)) rfl rfl rfl rfl hw rfl rfl) rfl
    apply w_setX
    · exact x_c (c_l (n_lst a_nil rfl rfl))
    clear hw hns hm
    refine w_n80 (Γ' := N80 f3 m ns way [] .un .un .un .un) rfl ?_
    refine w_forR (fr := true) (N := (m : Nat)) (S := List Rt × Fd) (fun i s => Bld ns i s.1) (fun s => N80 s.2 m ns way s.1 .un .un .un .un) ([], f3) (i_range1 (e_var rfl) (cRng_of (by decide) (by decide) (by omega) (by omega))) rfl ⟨rfl, by simp, by simp, by simp⟩ ?_ ?_
    · rintro i ⟨rs, g⟩ hi B
      dsimp only at B ⊢
      have him : i < m := by omega
      refine ⟨_, rfl, ?_⟩
      apply w_setX
      · exact x_c (c_l (n_lst a_nil rfl rfl))
      refine w_ifJ (S := List Int × Fd) (fun s => RwO i s.1) (fun s => N80 s.2 m ns way rs (.dat true (nI80 i)) (.own (.lst (s.1.map .int))) .un .un) (t_tst (e_cmp (e_var rfl) e_C k_eqI)) ?_ ?_ ?_
      · intro _
        obtain ⟨out, g2, e, xs, rfl, hx⟩ := n_compS (enc := PyData.int) (rng 0 (i : Nat)) (S := Fd) (fun k out _ => ∃ xs : List Int, out = xs.map PyData.int ∧ RwO k xs) (fun g => N80 g m ns way rs (.dat true (nI80 i)) (.own (.lst [])) .un .un) g (vs := [8]) (g := gN 8) (t := dTst (dCmp kEq (eX (xCallC uTake 0 [] (dAc (dVar 0) (dAc (dC (.int 2)) dA0)))) (dC (.int 1)))) (e := dFrz (dVar 8))
          (i_range1 (f := dVar 5) (Γ := N80 g m ns way rs (.dat true (nI80 i)) (.own (.lst [])) .un .un) (e_var rfl) (cRng_of (by decide) (by decide) (by omega) (by omega))) (by rw [rng_len]; omega) rfl ⟨[], rfl, List.nodup_nil, by simp⟩ (by
            rintro k x out g1 hx ⟨xs, rfl, hr⟩
            obtain ⟨rfl, hk⟩ := rng_at hx
            obtain ⟨a, g3, ha, a0, a1⟩ := take_q g1 2 (by decide) (by decide)
            refine ⟨_, rfl, _, _, t_tst (e_cmp (e_x (x_callE (a_cons (e_varI rfl) (a_cons e_C a_nil)) rfl rfl rfl rfl ha rfl rfl) rfl) e_C k_eqI), fun _ => ⟨_, _, g3, e_frz (e_var rfl), rfl, xs ++ [(k : Int)], ?_, ?_⟩, fun _ => ⟨g3, rfl, xs, rfl, hr.1, fun x h => ?_⟩⟩
            · rw [List.map_append]; rfl
            · refine ⟨List.nodup_append.mpr ⟨hr.1, by simp, fun x hx y hy e => ?_⟩, fun x h => ?_⟩
              · have := hr.2 x hx
                have := List.mem_singleton.mp hy
                omega
              · rcases List.mem_append.mp h with h | h
                · have := hr.2 x h; omega
                · have := List.mem_singleton.mp h; omega
            · have := hr.2 x h; omega)
        apply w_setC
        · exact c_l e
        rw [rng_len] at hx
        exact w_nil ⟨(xs, g2), rfl, by simpa using hx⟩
      · intro _
        exact w_nil ⟨([], g), rfl, List.nodup_nil, by simp⟩
      rintro ⟨xs0, g1⟩ hx0
      dsimp only at hx0 ⊢
      obtain ⟨t, g2, ht, t0, t1⟩ := take_q g1 7 (by decide) (by decide)
      have hb := b2n_nn (decide ((0 : Int) < (i : Nat)))
      refine w_forR (fr := true) (N := t * b2n (decide ((0 : Int) < (i : Nat)))) (Γ1 := N80 g2 m ns way rs (.dat true (nI80 i)) (.own (.lst (xs0.map .int))) .un .un) (S := List Int × Fd × Sl) (fun _ s => RwO i s.1) (fun s => N80 s.2.1 m ns way rs (.dat true (nI80 i)) (.own (.lst (s.1.map .int))) .un s.2.2) (xs0, g2, .un) ?_ rfl hx0 ?_ ?_
      · refine i_range1 (fr := true) (e_I (e_x (x_callE (a_cons (e_varI rfl) (a_cons e_C a_nil)) rfl rfl rfl rfl ht rfl rfl) rfl) (e_B (a_cons (e_cmp (e_var rfl) e_C rfl) a_nil) rfl) (k_mul (mulL (by omega)))) (cRng_of (by decide) (by decide) ?_ ?_)
        · rcases (by omega : b2n (decide ((0 : Int) < (i : Nat))) = 0 ∨ b2n (decide ((0 : Int) < (i : Nat))) = 1) with e | e <;> rw [e] <;> omega
        · rcases (by omega : b2n (decide ((0 : Int) < (i : Nat))) = 0 ∨ b2n (decide ((0 : Int) < (i : Nat))) = 1) with e | e <;> rw [e] <;> omega
      · rintro k ⟨xs, g3, s8⟩ hk hx
        dsimp only at hx ⊢
        have hi0 : 0 < i := by
          rcases Nat.eq_zero_or_pos i with e | e
          · subst e
            have : t * b2n (decide ((0 : Int) < ((0 : Nat) : Int))) = 0 := by
              show t * 0 = 0
              omega
            omega
          · exact e
        refine ⟨_, rfl, ?_⟩
        obtain ⟨el, g4, he, e0, e1⟩ := take_q g3 (i : Nat) (by omega) (by omega)
        apply w_set
        · exact e_x (x_callE (a_cons (e_varI rfl) (a_cons (e_var rfl) a_nil)) rfl rfl rfl rfl he rfl rfl) rfl
        refine w_n80 (Γ' := N80 g4 m ns way rs (.dat true (nI80 i)) (.own (.lst (xs.map .int))) (.dat true (nI80 k)) (.dat true (.int el))) rfl ?_
        apply w_if
        · exact t_tst (e_cmp (e_var rfl) (e_varO rfl) (k_ninS el xs rfl))
        · intro hz
          have hz : el ∉ xs := by simpa using hz
          have hxl := hx.len
          apply w_seqA
          obtain ⟨at1, g5, h5, b0, b1⟩ := take_q g4 ((xs.length : Nat) + 1) (by omega) (by omega)
          apply w_expr
          · refine e_ins (fr := true) (io := false) (es := xs.map .int) (ds := xs.map .int) (n := at1) (y := .int el) (Γ1 := N80 g5 m ns way rs (.dat true (nI80 i)) (.own (.lst (xs.map .int))) (.dat true (nI80 k)) (.dat true (.int el))) rfl ?_ rfl ?_
            · exact a_cons (e_x (x_callE (a_cons (e_varI rfl) (a_cons (e_add (e_B (a_cons (e_varO rfl) a_nil) (k_lenI (enc := PyData.int) (xs := xs) rfl)) e_C) a_nil)) rfl rfl rfl rfl h5 rfl rfl) rfl) (a_cons (e_frz (e_var rfl)) a_nil)
            · unfold cIns
              have : (2 : Nat) ^ 20 ≤ sizeLine := by decide
              rw [decide_eq_true (by rw [List.length_map]; omega), decide_eq_true ⟨by omega, by omega⟩]
              rfl
          have hp := ins_perm xs at1 el
          apply w_seqN
          refine w_nil ⟨(insI xs at1 el, g5, .dat true (.int el)), ?_, ?_⟩
          · rw [← ins_mapG PyData.int]; rfl
          · refine ⟨hp.nodup_iff.mpr (List.nodup_append.mpr ⟨hx.1, by simp, fun x hx y hy e => ?_⟩), fun x h => ?_⟩
            · rw [List.mem_singleton.mp hy] at e
              exact hz (e ▸ hx)
            · rcases List.mem_append.mp (hp.mem_iff.mp h) with h | h
              · exact hx.2 x h
              · have := List.mem_singleton.mp h; omega
        · intro hz
          apply w_seqN
          exact w_nil ⟨(xs, g4, .dat true (.int el)), rfl, hx⟩
      · rintro ⟨xs, g3, s8⟩ hx
        dsimp only at hx ⊢
        have hxl := hx.len
        refine w_frz (d := .list (xs.map .int)) rfl rfl ?_
        obtain ⟨p, g4, hp, p1, p2⟩ := price80 g3
        refine w_n80 (Γ' := N80 g3 m ns way rs (.dat true (nI80 i)) (.dat true (.list (xs.map .int))) .un s8) rfl ?_
        have hc : nComp [8] (gN 8) (iSeq (dVar 6)) tYes (dFrz (dIxB (dVar 2) (dVar 8))) (N80 g4 m ns way rs (.dat true (nI80 i)) (.dat true (.list (xs.map .int))) .un s8) = .val (xs.map (fun x => PyData.str (nm80 ns x)), N80 g4 m ns way rs (.dat true (nI80 i)) (.dat true (.list (xs.map .int))) .un .un) :=
          n_map (enc := PyData.int) xs (fun x => .str (nm80 ns x)) (i_seqL (e_var rfl)) (by omega) rfl fun x h => by
            have := hx.2 x h
            exact ⟨_, rfl, rfl, e_frz (e_ixL (e_var rfl) (e_var rfl) (nm80_atI this.1 (by rw [nl]; omega)))⟩
        apply w_expr
        · refine e_app (io := false) (es := rs.map rtD) (ds := rs.map rtD) (d := rtD (nm80 ns (i : Nat), p, xs.map (nm80 ns))) (Γ1 := N80 g4 m ns way rs (.dat true (nI80 i)) (.dat true (.list (xs.map .int))) .un .un) rfl ?_ rfl (ltS_of (by rw [List.length_map, B.ln]; omega))
          refine e_tup (as := [.d true (.str (nm80 ns (i : Nat))), .d true (.int p), .d true (.tuple (xs.map fun x => PyData.str (nm80 ns x)))]) (a_cons (e_frz (e_ixL (e_var rfl) (e_var rfl) (nm80_atI (by omega) (by rw [nl]; omega)))) (a_cons (e_x (x_callE (a_cons (e_varI rfl) a_nil) rfl rfl rfl rfl hp rfl rfl) rfl) (a_cons (e_B (a_cons (e_ofN hc) a_nil) (k_tup rfl)) a_nil))) ?_ rfl
          show some ([PyData.str (nm80 ns (i : Nat)), .int p, .tuple (xs.map fun x => PyData.str (nm80 ns x))], true) = some ([PyData.str (nm80 ns (i : Nat)), .int p, .tuple ((xs.map (nm80 ns)).map PyData.str)], true)
          rw [List.map_map]; rfl
        refine w_n80 (Γ' := [.io (.feed g4), .dat true (.int (m : Nat)), .dat true (.list (ns.map .str)), .dat true (.int way), .own (.lst ((rs ++ [(nm80 ns (i : Nat), p, xs.map (nm80 ns))]).map rtD)), .dat true (nI80 i), .dat true (.list (xs.map .int)), .un, .un]) (by rw [List.map_append]; rfl) ?_
        exact w_nil ⟨(rs ++ [(nm80 ns (i : Nat), p, xs.map (nm80 ns))], g4), rfl, B.snoc (by rw [nl]; exact him) nnd p1 p2 hx⟩
    · rintro ⟨rs, g⟩ B
      dsimp only at B ⊢
      have B : Bld ns m rs := by simpa using B
      apply w_retO
      · rfl
      have hnm : rs.map (·.1) = ns := by rw [B.nm, List.take_of_length_le (by omega)]
      refine ⟨_, _, rfl, rfl, rs, g, rfl, by rw [hnm]; exact nnd, fun r hr => ⟨ng r.1 (by rw [← hnm]; exact List.mem_map.mpr ⟨r, hr, rfl⟩), B.pr r hr⟩, fun k r hk => ?_, by rw [B.ln]; omega, by rw [B.ln]; omega⟩
      obtain ⟨h1, h2⟩ := B.el k r hk
      refine ⟨h1, fun e he => ?_⟩
      rw [List.map_take, hnm]
      exact h2 e he
  obtain ⟨z, e, rs, f', rfl, h⟩ := key
  exact ⟨rs, f', e, h⟩
end PDW
set_option linter.all false
set_option maxRecDepth 100000
set_option maxHeartbeats 0
set_option autoImplicit false
namespace PD
open PySem L2
theorem join_len {B : Nat} (sp : Str) : ∀ ys : List Str, (∀ y ∈ ys, y.length ≤ B) → (Str.join sp ys).length ≤ ys.length * (B + sp.length)
  | [], _ => Nat.zero_le _
  | [x], h => by
    have := h x (by simp)
    show x.length ≤ _
    simp; omega
  | x :: y :: r, h => by
    have h1 := h x (by simp)
    have h2 := join_len sp (y :: r) fun z hz => h z (List.mem_cons_of_mem _ hz)
    show ((x ++ sp) ++ Str.join sp (y :: r)).length ≤ _
    rw [len_app, len_app, List.length_cons, Nat.add_mul]
    omega
theorem sum_len {ys : List Str} {B : Nat} (h : ∀ y ∈ ys, y.length ≤ B) : (ys.map (·.length)).sum ≤ ys.length * B := by
  induction ys with
  | nil => exact Nat.zero_le _
  | cons y r ih =>
    have h1 := h y (by simp)
    have h2 := ih fun z hz => h z (List.mem_cons_of_mem _ hz)
    rw [List.map_cons, List.sum_cons, List.length_cons, Nat.add_mul]
    omega
theorem tl_join (sp : Str) (x : Str) : ∀ ys : List Str, tl (Str.join sp (x :: ys)) = tl x ++ ys.flatMap fun y => tl sp ++ tl y := by
  intro ys
  induction ys generalizing x with
  | nil => show tl x = _; simp
  | cons y r ih =>
    show tl ((x ++ sp) ++ Str.join sp (y :: r)) = _
    rw [tl_app, tl_app, ih y, List.flatMap_cons]
    simp
section
variable {ns : List Str} {B : Nat} (hB : ∀ s ∈ ns, s.length ≤ 8 ∧ AsOk s)
include hB
end
section
def rwD (r : Str × Int × PyData) : PyData := .tuple [.str r.1, .int r.2.1, r.2.2]
theorem namesIn_q (tp : Bool) (rs : List (Str × Int × PyData)) (hl : rs.length ≤ 1000) : u_p_names_in [.d (if tp then .tuple (rs.map rwD) else .list (rs.map rwD))] = .val (.c (.lst ((rs.map (·.1)).map .str)), [.un]) := by
  refine ok_eq (ok_run rfl ?_)
  unfold b_p_names_in
  have e : iSeq (dVar 0) (initS 2 [Ar.d (if tp then .tuple (rs.map rwD) else .list (rs.map rwD))]) = .val ((rs.map rwD, false), [.dat false (if tp then .tuple (rs.map rwD) else .list (rs.map rwD)), .un]) := by
    cases tp
    · exact i_seqL (e_var rfl)
    · exact i_seqT (e_var rfl)
  apply w_retC
  · apply c_l
    exact n_map (enc := rwD) rs (fun x => .str x.1) e (by omega) rfl fun x hx => ⟨_, rfl, rfl, e_frzT (e_ixT (e_var rfl) e_C rfl) rfl⟩
  refine ⟨_, _, rfl, rfl, ?_⟩
  rw [List.map_map]; rfl
end
end PD
set_option linter.all false
set_option maxRecDepth 100000
set_option maxHeartbeats 0
set_option autoImplicit false
namespace PDW
open PySem L2 PD
def numT (p : Int) : Str := Str.ofString (toString p)
def SPs : Str := Str.ofString " "
def NLs : Str := Str.ofString "\n"
theorem sp_tl : PD.tl SPs = [32] := by decide +kernel
theorem nl_tl : PD.tl NLs = [10] := by decide +kernel
theorem sp_len : SPs.length = 1 := by decide +kernel
theorem nl_len : NLs.length = 1 := by decide +kernel
def wordsT (r : Rt) : List Str := r.1 :: numT r.2.1 :: r.2.2
def rowT (r : Rt) : Str := Str.join SPs (wordsT r)
def txt80 (rs : List Rt) : Str := Str.join NLs (rs.map rowT)
theorem numT_tl {p : Int} (h : 0 ≤ p) : PD.tl (numT p) = TL.numL p.toNat := by
  obtain ⟨n, rfl⟩ : ∃ n : Nat, p = (n : Int) := ⟨p.toNat, by omega⟩
  exact TL.tl_num n
theorem numT_len {p : Int} (h : 0 ≤ p) (h2 : p ≤ TEN30) : (numT p).length ≤ 31 := by
  rw [PD.len_tl, numT_tl h]
  refine TL.numL_len (by decide) ?_
  have : TEN30 < 10 ^ 31 := by decide
  omega
theorem k_str80 {Γ : List Sl} {fr : Bool} {p : Int} (h : 0 ≤ p) (h2 : p ≤ TEN30) : kStr Γ [.d fr (.int p)] = .val (.d true (.str (numT p))) := gq_of _ (decide_eq_true (by
  have e : TEN30 < 2 ^ 100 := by decide
  have : p.natAbs < 2 ^ 100 := by omega
  by_cases h0 : p.natAbs = 0
  · rw [h0]; decide
  · have := (Nat.log2_lt h0 (k := 100)).mpr this
    omega))
structure RwOk (r : Rt) : Prop where
  nm : GoodN r.1
  p1 : 1 ≤ r.2.1
  p2 : r.2.1 ≤ TEN30
  el : ∀ e ∈ r.2.2, GoodN e
  ln : r.2.2.length ≤ 40
theorem RsOk.row {rs : List Rt} (h : RsOk rs) {k : Nat} {r : Rt} (hk : rs[k]? = some r) : RwOk r := by
  have hr := List.mem_of_getElem? hk
  obtain ⟨h1, h2, h3⟩ := h.nm r hr
  obtain ⟨e1, e2⟩ := h.el k r hk
  have hl := (List.getElem?_eq_some_iff.mp hk).1
  have hl2 := h.l2
  refine ⟨h1, h2, h3, fun e he => ?_, ?_⟩
  · obtain ⟨q, hq, rfl⟩ := List.mem_map.mp (e2 e he)
    exact (h.nm q (List.mem_of_mem_take hq)).1
  · have := pigeon r.2.2 _ e1 e2
    rw [List.length_map, List.length_take] at this
    omega
theorem RsOk.rows {rs : List Rt} (h : RsOk rs) : ∀ r ∈ rs, RwOk r := fun r hr => by
  obtain ⟨k, hk⟩ := List.getElem?_of_mem hr
  exact h.row hk
theorem wordsT_len {r : Rt} (h : RwOk r) : ∀ w ∈ wordsT r, w.length ≤ 31 := by
  intro w hw
  rcases List.mem_cons.mp hw with rfl | hw
  · have := h.nm.1.2.1; omega
  rcases List.mem_cons.mp hw with rfl | hw
  · exact numT_len (by have := h.p1; omega) h.p2
  · have := (h.el w hw).1.2.1; omega
theorem rowT_len {r : Rt} (h : RwOk r) : (rowT r).length ≤ 1400 := by
  have h1 := join_len SPs (wordsT r) (wordsT_len h)
  rw [sp_len] at h1
  have h2 : (wordsT r).length ≤ 42 := by have := h.ln; simp only [wordsT, List.length_cons]; omega
  have h3 : (wordsT r).length * (31 + 1) ≤ 42 * (31 + 1) := Nat.mul_le_mul_right _ h2
  exact Nat.le_trans h1 (Nat.le_trans h3 (by decide))
theorem rowT_fold (r : Rt) : r.2.2.foldl (fun t e => (t ++ SPs) ++ e) ((r.1 ++ SPs) ++ numT r.2.1) = rowT r := by
  have key : ∀ (es : List Str) (t : Str), PD.tl (es.foldl (fun t e => (t ++ SPs) ++ e) t) = PD.tl t ++ es.flatMap fun e => PD.tl SPs ++ PD.tl e := by
    intro es
    induction es with
    | nil => intro t; simp
    | cons e es ih =>
      intro t
      rw [List.foldl_cons, ih, PD.tl_app, PD.tl_app, List.flatMap_cons]
      simp
  refine PD.str_ext ?_
  unfold rowT wordsT
  rw [key, PD.tl_join, List.flatMap_cons, PD.tl_app, PD.tl_app]
  simp
theorem join_app80 {ls : List Rt} (h : ∀ r ∈ ls, RwOk r) (hl : ls.length ≤ 40) : ((ls.map rowT).map (·.length)).sum + (ls.map rowT).length * NLs.length ≤ 16777216 := by
  have h1 : ∀ y ∈ ls.map rowT, y.length ≤ 1400 := fun y hy => by
    obtain ⟨r, hr, rfl⟩ := List.mem_map.mp hy
    exact rowT_len (h r hr)
  have h2 := sum_len h1
  rw [nl_len]
  rw [List.length_map] at h2 ⊢
  have h3 : ls.length * 1400 ≤ 40 * 1400 := Nat.mul_le_mul_right _ hl
  omega
theorem text80 {rs : List Rt} (h : RsOk rs) : u_qtext_k80 [.d (.list (rs.map rtD))] = .val (.d (.str (txt80 rs)), [.un]) := by
  refine ok_eq (ok_run rfl ?_)
  unfold b_qtext_k80
  have hl := h.l2
  apply w_setX
  · exact x_c (c_l (n_lst a_nil rfl rfl))
  refine w_forL (enc := rtD) rs (S := List Rt) (fun i s => s = rs.take i) (fun s => [.dat false (.list (rs.map rtD)), .own (.lst ((s.map rowT).map .str)), .un, .un, .un, .un, .un]) [] (i_seqL (e_var rfl)) rfl rfl ?_ ?_
  · rintro i r s hr rfl
    have hrk := h.row hr
    have hil := (List.getElem?_eq_some_iff.mp hr).1
    refine ⟨_, rfl, ?_⟩
    refine w_n80 (Γ' := [.dat false (.list (rs.map rtD)), .own (.lst (((rs.take i).map rowT).map .str)), .dat false (.str r.1), .dat false (.int r.2.1), .dat false (.tuple (r.2.2.map .str)), .un, .un]) rfl ?_
    have hnm := hrk.nm.1.2.1
    have hpl := numT_len (by have := hrk.p1; omega) hrk.p2
    apply w_set
    · apply e_addS
      · apply e_addS
        · exact e_var rfl
        · exact e_C
        · show r.1.length + SPs.length ≤ _
          rw [sp_len]; omega
      · exact e_B (a_cons (e_var rfl) a_nil) (k_str80 (by have := hrk.p1; omega) hrk.p2)
      · show (r.1 ++ SPs).length + _ ≤ _
        rw [PD.len_app, sp_len]; omega
    have hel := hrk.ln
    refine w_forL (enc := PyData.str) r.2.2 (S := Str) (fun k t => t = (r.2.2.take k).foldl (fun t e => (t ++ SPs) ++ e) ((r.1 ++ SPs) ++ numT r.2.1) ∧ t.length ≤ 45 + 10 * k) (fun t => [.dat false (.list (rs.map rtD)), .own (.lst (((rs.take i).map rowT).map .str)), .dat false (.str r.1), .dat false (.int r.2.1), .dat false (.tuple (r.2.2.map .str)), .dat true (.str t), .un]) ((r.1 ++ SPs) ++ numT r.2.1) (i_seqT (e_var rfl)) rfl ⟨rfl, ?_⟩ ?_ ?_
    · rw [PD.len_app, PD.len_app, sp_len]; omega
    · rintro k e t he ⟨ht, htl⟩
      have hkl := (List.getElem?_eq_some_iff.mp he).1
      have hen := (hrk.el e (List.mem_of_getElem? he)).1.2.1
      refine ⟨_, rfl, ?_⟩
      apply w_set
      · apply e_addS
        · apply e_addS
          · exact e_var rfl
          · exact e_C
          · show t.length + SPs.length ≤ _
            rw [sp_len]; omega
        · exact e_var rfl
        · show (t ++ SPs).length + _ ≤ _
          rw [PD.len_app, sp_len]; omega
      refine w_nil ⟨(t ++ SPs) ++ e, rfl, ?_, ?_⟩
      · rw [List.take_succ, he, List.foldl_append, ← ht]; rfl
      · rw [PD.len_app, PD.len_app, sp_len]; omega
    · rintro t ⟨ht, htl⟩
      rw [List.take_length, rowT_fold] at ht
      subst ht
      apply w_expr
      · exact e_app (io := false) (es := ((rs.take i).map rowT).map .str) (ds := ((rs.take i).map rowT).map .str) (d := .str (rowT r)) rfl (e_var rfl) rfl (ltS_of (by rw [List.length_map, List.length_map, List.length_take]; omega))
      refine w_n80 (Γ' := [.dat false (.list (rs.map rtD)), .own (.lst (((rs.take i ++ [r]).map rowT).map .str)), .dat false (.str r.1), .dat false (.int r.2.1), .dat false (.tuple (r.2.2.map .str)), .dat true (.str (rowT r)), .un]) (by rw [List.map_append, List.map_append]; rfl) ?_
      exact w_nil ⟨rs.take i ++ [r], rfl, by rw [List.take_succ, hr]; rfl⟩
  · rintro s rfl
    rw [List.take_length]
    apply w_ret
    · exact e_joinL (x := NLs) e_C (e_varO rfl) rfl (join_app80 h.rows hl)
    exact ⟨_, _, rfl, rfl, rfl⟩
theorem show80 {rs : List Rt} (h : RsOk rs) (tp : Bool) : u_p_show_net [.d (if tp then .tuple (rs.map rtD) else .list (rs.map rtD))] = .val (.d (.str (txt80 rs)), [.un]) := by
  obtain ⟨d, hd⟩ : ∃ d, d = (if tp then PyData.tuple (rs.map rtD) else PyData.list (rs.map rtD)) := ⟨_, rfl⟩
  rw [← hd]
  have hi : ∀ {Γ : List Sl}, Γ[0]? = some (.dat false d) → iSeq (dVar 0) Γ = .val ((rs.map rtD, false), Γ) := fun {Γ} hg => by
    subst hd
    cases tp
    · exact i_seqL (e_var hg)
    · exact i_seqT (e_var hg)
  have e0 : initS 5 [Ar.d d] = [.dat false d, .un, .un, .un, .un] := by
    subst hd
    cases tp <;> rfl
  clear hd
  refine ok_eq (ok_run rfl ?_)
  unfold b_p_show_net
  rw [e0]
  have hl := h.l2
  apply w_setX
  · exact x_c (c_l (n_lst a_nil rfl rfl))
  refine w_forL (enc := rtD) rs (S := List Rt) (fun i s => s = rs.take i) (fun s => [.dat false d, .own (.lst ((s.map rowT).map .str)), .un, .un, .un]) [] (hi rfl) rfl rfl ?_ ?_
  · rintro i r s hr rfl
    have hrk := h.row hr
    have hil := (List.getElem?_eq_some_iff.mp hr).1
    refine ⟨_, rfl, ?_⟩
    refine w_n80 (Γ' := [.dat false d, .own (.lst (((rs.take i).map rowT).map .str)), .dat false (.str r.1), .dat false (.int r.2.1), .dat false (.tuple (r.2.2.map .str))]) rfl ?_
    have hel := hrk.ln
    have hwl := sum_len (wordsT_len hrk)
    have hw2 : (wordsT r).length ≤ 42 := by simp only [wordsT, List.length_cons]; omega
    have hw3 : (wordsT r).length * 31 ≤ 42 * 31 := Nat.mul_le_mul_right _ hw2
    have hfl : flat.flatA (r.2.2.map PyData.str) = true := by
      induction r.2.2 with
      | nil => rfl
      | cons _ _ ih => exact ih
    have hkl : dBN kList (dAc (dVar 4) dA0) [.dat false d, .own (.lst (((rs.take i).map rowT).map .str)), .dat false (.str r.1), .dat false (.int r.2.1), .dat false (.tuple (r.2.2.map .str))] = .val (r.2.2.map PyData.str, [.dat false d, .own (.lst (((rs.take i).map rowT).map .str)), .dat false (.str r.1), .dat false (.int r.2.1), .dat false (.tuple (r.2.2.map .str))]) :=
      n_B (as := [.d false (.tuple (r.2.2.map .str))]) (a_cons (e_var rfl) a_nil) (k_list (fr := false) rfl (by rw [hfl]; rfl))
    have hcat : dOfN (dCat (dOfN (dLst (dAc (dFrz (dVar 2)) (dAc (dB kStr (dAc (dVar 3) dA0)) dA0)))) (dOfN (dBN kList (dAc (dVar 4) dA0)))) [.dat false d, .own (.lst (((rs.take i).map rowT).map .str)), .dat false (.str r.1), .dat false (.int r.2.1), .dat false (.tuple (r.2.2.map .str))] = .val (.d true (.list ((wordsT r).map PyData.str)), [.dat false d, .own (.lst (((rs.take i).map rowT).map .str)), .dat false (.str r.1), .dat false (.int r.2.1), .dat false (.tuple (r.2.2.map .str))]) := by
      have hc0 : dCat (dOfN (dLst (dAc (dFrz (dVar 2)) (dAc (dB kStr (dAc (dVar 3) dA0)) dA0)))) (dOfN (dBN kList (dAc (dVar 4) dA0))) [.dat false d, .own (.lst (((rs.take i).map rowT).map .str)), .dat false (.str r.1), .dat false (.int r.2.1), .dat false (.tuple (r.2.2.map .str))] = .val ([PyData.str r.1, .str (numT r.2.1)] ++ r.2.2.map PyData.str, [.dat false d, .own (.lst (((rs.take i).map rowT).map .str)), .dat false (.str r.1), .dat false (.int r.2.1), .dat false (.tuple (r.2.2.map .str))]) :=
        n_cat (e_ofN (n_lst (ds := [PyData.str r.1, .str (numT r.2.1)]) (a_cons (e_frzT (e_var rfl) rfl) (a_cons (e_B (a_cons (e_var rfl) a_nil) (k_str80 (by have := hrk.p1; omega) hrk.p2)) a_nil)) rfl rfl)) (e_ofN hkl) rfl rfl (szB_of (by rw [List.length_append, List.length_map]; simp only [List.length_cons, List.length_nil]; omega))
      exact e_ofN hc0
    apply w_expr
    · refine e_app (io := false) (Γ1 := [.dat false d, .own (.lst (((rs.take i).map rowT).map .str)), .dat false (.str r.1), .dat false (.int r.2.1), .dat false (.tuple (r.2.2.map .str))]) (es := ((rs.take i).map rowT).map .str) (ds := ((rs.take i).map rowT).map .str) (d := .str (rowT r)) rfl ?_ rfl (ltS_of (by rw [List.length_map, List.length_map, List.length_take]; omega))
      exact e_joinL (x := SPs) e_C hcat rfl (by rw [sp_len]; omega)
    refine w_n80 (Γ' := [.dat false d, .own (.lst (((rs.take i ++ [r]).map rowT).map .str)), .dat false (.str r.1), .dat false (.int r.2.1), .dat false (.tuple (r.2.2.map .str))]) (by rw [List.map_append, List.map_append]; rfl) ?_
    exact w_nil ⟨rs.take i ++ [r], rfl, by rw [List.take_succ, hr]; rfl⟩
  · rintro s rfl
    rw [List.take_length]
    apply w_ret
    · exact e_joinL (x := NLs) e_C (e_varO rfl) rfl (join_app80 h.rows hl)
    exact ⟨_, _, rfl, rfl, rfl⟩
end PDW
set_option linter.all false
set_option maxRecDepth 100000
set_option maxHeartbeats 0
set_option autoImplicit false
namespace PDW
open PySem L2 PD
theorem k_len80 {Γ : List Sl} {fr : Bool} {a : Str} (h : a.length ≤ 100000) : kLen Γ [.d fr (.str a)] = .val (.d true (.int (a.length : Nat))) := by
  unfold kLen
  simp only [rdD]
  exact gq_of _ (len_sz h)
theorem lit80 : AsOk (Str.ofString "none") ∧ AsOk (Str.ofString "open") ∧ AsOk (Str.ofString "0") := by
  unfold AsOk; decide +kernel
theorem isName80 {s : Str} (h : GoodN s) : u_p_is_name [.d (.str s)] = .val (.d (.bool true), [.un]) := by
  obtain ⟨⟨h1, h2, h3⟩, n1, n2⟩ := h
  have hA : AsOk s := fun c hc => by have := h3 c hc; omega
  refine ok_eq (ok_run rfl ?_)
  unfold b_p_is_name
  rw [show initS 2 [Ar.d (.str s)] = [.dat true (.str s), .un] from rfl]
  apply w_ifN
  · exact t_or (t_tst (e_cmp (e_B (a_cons (e_var rfl) a_nil) (k_len80 (by omega))) e_C rfl)) fun _ => t_or (t_tst (e_cmp (e_B (a_cons (e_var rfl) a_nil) (k_len80 (by omega))) e_C rfl)) fun _ => t_or (t_tst (e_cmp (e_var rfl) e_C (k_eqTx hA lit80.1))) fun _ => t_tst (e_cmp (e_var rfl) e_C (k_eqTx hA lit80.2.1))
  · simp only [Bool.or_eq_false_iff, decide_eq_false_iff_not]
    exact ⟨by omega, by omega, n1, n2⟩
  and_intros
  have hc : nComp [1] (gN 1) (iTxt (dVar 0)) PD.tYes (dFrz (dCmp kInS (dVar 1) (dC (.str "abcdefghijklmnopqrstuvwxyz")))) [.dat true (.str s), .un] = .val ((PD.tl s).map (fun _ => PyData.bool true), [.dat true (.str s), .un]) :=
    n_map (enc := fun c => PyData.str ⟨#[c]⟩) (PD.tl s) (fun _ => .bool true) (fr := true) (Γ1 := [.dat true (.str s), .un]) (by
      unfold iTxt
      rw [show dVar 0 [.dat true (.str s), .un] = .val (.d true (.str s), [.dat true (.str s), .un]) from rfl]
      rfl) (by rw [← PD.len_tl]; omega) rfl fun c hc => ⟨_, rfl, rfl, e_frz (e_cmp (e_var rfl) e_C (by
        show R.val (decide (c ∈ PD.tl ALPH)) = _
        rw [PD.alph_tl]
        have := h3 c hc
        rw [decide_eq_true (List.mem_map.mpr ⟨c - 97, List.mem_range.mpr (by omega), by omega⟩)]))⟩
  apply w_ret
  · exact e_B (a_cons (e_ofN hc) a_nil) (k_allT _)
  exact ⟨_, _, rfl, rfl, rfl⟩
theorem numL_head : ∀ (n : Nat), 1 ≤ n → ∃ c r, TL.numL n = c :: r ∧ c ≠ 48 := by
  intro n
  induction n using Nat.strongRecOn with
  | _ n ih =>
    intro h
    by_cases h10 : n < 10
    · exact ⟨48 + n, [], TL.numL_lt h10, by omega⟩
    · obtain ⟨c, r, e, hc⟩ := ih (n / 10) (by omega) (by omega)
      exact ⟨c, r ++ [48 + n % 10], by rw [TL.numL_step (by omega), e]; rfl, hc⟩
def DIGS : Str := "0123456789"
theorem digs_tl : PD.tl DIGS = (List.range 10).map (48 + ·) := by decide +kernel
theorem zero_tl : PD.tl (Str.ofString "0") = [48] := by decide +kernel
theorem priceIn80 {p : Int} (h1 : 1 ≤ p) (h2 : p ≤ TEN30) : u_p_price_in [.d (.str (numT p))] = .val (.d (.int p), [.un]) := by
  obtain ⟨n, rfl⟩ : ∃ n : Nat, p = (n : Int) := ⟨p.toNat, by omega⟩
  have htl : PD.tl (numT (n : Int)) = TL.numL n := TL.tl_num n
  have hlen := numT_len (p := (n : Int)) (by omega) h2
  obtain ⟨c, r, hcr, hc48⟩ := numL_head n (by omega)
  have hl1 : 1 ≤ (numT (n : Int)).length := by rw [PD.len_tl, htl, hcr]; simp
  have hdig := TL.numL_digits n
  have hcd := hdig c (by rw [hcr]; simp)
  have hint : ∀ {Γ : List Sl} {fr : Bool}, kIntT Γ [.d fr (.str (numT (n : Int)))] = .val (.d true (.int (n : Nat))) := fun {Γ fr} => by
    unfold kIntT
    have e : PySem.intText? (numT (n : Int)) = some (n : Int) := TL.int_num (by rw [← htl, ← PD.len_tl]; omega)
    simp only [e]
    show ((R.ofO (some (n : Int))).bind _) = _
    rw [ofO_some, bind_val]
    exact gq_of _ (decide_eq_true (by omega))
  refine ok_eq (ok_run rfl ?_)
  unfold b_p_price_in
  rw [show initS 2 [Ar.d (.str (numT (n : Int)))] = [.dat true (.str (numT (n : Int))), .un] from rfl]
  apply w_ifN
  · exact t_or (t_tst (e_cmp (e_B (a_cons (e_var rfl) a_nil) (k_len80 (by omega))) e_C rfl)) fun _ => t_or (t_tst (e_cmp (e_B (a_cons (e_var rfl) a_nil) (k_len80 (by omega))) e_C rfl)) fun _ => t_tst (e_cmp (e_ixStr (c := c) (e_var rfl) e_C (by rw [htl, hcr]; exact atI_nat (j := 0) rfl) (by omega)) e_C (k_eqTx (fun x hx => by
      have : x = c := by simpa using hx
      omega) lit80.2.2))
  · simp only [Bool.or_eq_false_iff, decide_eq_false_iff_not]
    refine ⟨by omega, by omega, fun e => hc48 ?_⟩
    have := congrArg PD.tl e
    rw [zero_tl] at this
    have this : [c] = [48] := this
    simpa using this
  and_intros
  have hcm : nComp [1] (gN 1) (iTxt (dVar 0)) PD.tYes (dFrz (dCmp kInS (dVar 1) (dC (.str "0123456789")))) [.dat true (.str (numT (n : Int))), .un] = .val ((PD.tl (numT (n : Int))).map (fun _ => PyData.bool true), [.dat true (.str (numT (n : Int))), .un]) :=
    n_map (enc := fun c => PyData.str ⟨#[c]⟩) (PD.tl (numT (n : Int))) (fun _ => .bool true) (fr := true) (Γ1 := [.dat true (.str (numT (n : Int))), .un]) (by
      unfold iTxt
      rw [show dVar 0 [.dat true (.str (numT (n : Int))), .un] = .val (.d true (.str (numT (n : Int))), [.dat true (.str (numT (n : Int))), .un]) from rfl]
      rfl) (by rw [← PD.len_tl]; omega) rfl fun c hc => ⟨_, rfl, rfl, e_frz (e_cmp (e_var rfl) e_C (by
        show R.val (decide (c ∈ PD.tl DIGS)) = _
        rw [digs_tl]
        rw [htl] at hc
        have := hdig c hc
        rw [decide_eq_true (List.mem_map.mpr ⟨c - 48, List.mem_range.mpr (by omega), by omega⟩)]))⟩
  apply w_ifN
  · exact t_or (t_not (t_tst (e_B (a_cons (e_ofN hcm) a_nil) (k_allT _)))) fun _ => t_tst (e_cmp (e_B (a_cons (e_var rfl) a_nil) hint) e_C rfl)
  · simp only [Bool.not_true, Bool.false_or, decide_eq_false_iff_not]
    have : TEN30 = 1000000000000000000000000000000 := by decide
    omega
  and_intros
  apply w_ret
  · exact e_B (a_cons (e_var rfl) a_nil) hint
  exact ⟨_, _, rfl, rfl, rfl⟩
end PDW
set_option linter.all false
set_option maxRecDepth 100000
set_option maxHeartbeats 0
set_option autoImplicit false
namespace PDW
open PySem L2 PD
theorem anyK80 {s : Str} : ∀ {kvs : List (PyData × PyData)} {l : List Str}, kvs.map (·.1) = l.map PyData.str → (kvs.any fun z => eqK z.1 (.str s)) = decide (s ∈ l)
  | [], [], _ => rfl
  | [], _ :: _, h => by cases h
  | _ :: _, [], h => by cases h
  | z :: kvs, x :: l, h => by
    rw [List.map_cons, List.map_cons] at h
    injection h with h1 h2
    rw [List.any_cons, anyK80 h2, h1]
    show (decide (x = s) || decide (s ∈ l)) = _
    by_cases e : x = s
    · simp [e]
    · have e2 : ¬ s = x := fun q => e q.symm
      simp [e, e2]
theorem find_any80 {α : Type} (p : α → Bool) : ∀ xs : List α, (xs.find? p).isSome = xs.any p
  | [] => rfl
  | x :: xs => by
    rw [List.find?_cons, List.any_cons]
    cases h : p x with
    | true => rfl
    | false => rw [find_any80 p xs]; rfl
theorem getK80 {s : Str} {kvs : List (PyData × PyData)} {l : List Str} (h : kvs.map (·.1) = l.map PyData.str) : (getD kvs (.str s)).isSome = decide (s ∈ l) := by
  rw [← anyK80 h]
  unfold getD
  rw [Option.isSome_map, find_any80]
theorem putK80 {s : Str} {v : PyData} {kvs : List (PyData × PyData)} {l : List Str} (h : kvs.map (·.1) = l.map PyData.str) (hs : s ∉ l) : (putD kvs (.str s) v) = kvs ++ [(.str s, v)] := by
  unfold putD
  rw [anyK80 h, decide_eq_false hs]; rfl
theorem k_inK80 {Γ : List Sl} {fr : Bool} {s : Str} {j : Nat} {kvs : List (PyData × PyData)} {l : List Str} (h1 : dicA Γ (.s j) = some (true, .k, kvs)) (h : kvs.map (·.1) = l.map PyData.str) : kInB Γ (.d fr (.str s)) (.s j) = .val (decide (s ∈ l)) := by
  unfold kInB
  rw [h1]
  show gq (kOk .k (.str s)) (getD kvs (.str s)).isSome = _
  rw [getK80 h]
  exact gq_of _ rfl
theorem x_cutD80 {Γ Γ1 Γ2 : List Sl} {f : DF} {o : DO} {a : AV} {ds : List PyData} {n : Int} (h1 : f Γ = .val (a, Γ1)) (h2 : o Γ1 = .val (some n, Γ2)) (h3 : lsA Γ2 a = some ds) (hn : 0 ≤ n) : xCut f o oNone Γ = .val (.c (.lst (ds.drop n.toNat)), Γ2) := by
  unfold xCut
  rw [h1, bind_val, h2, bind_val]
  unfold cutX
  simp only [oNone, bind_val, h3]
  have : cutD ds (some n) none = ds.drop n.toNat := by
    obtain ⟨k, rfl⟩ : ∃ k : Nat, n = (k : Int) := ⟨n.toNat, by omega⟩
    unfold cutD
    rw [HT.sIx_none, HT.sIx_nat, Int.toNat_natCast]
    by_cases h : k ≤ ds.length
    · rw [Nat.min_eq_left h]
      exact List.take_of_length_le (by simp)
    · rw [Nat.min_eq_right (by omega), List.drop_eq_nil_of_le (Nat.le_refl _), List.drop_eq_nil_of_le (by omega)]
      simp
  rw [this]
theorem txM_nd : ∀ {xs : List Str}, xs.Nodup → ∀ i, i ≤ xs.length → txM xs i = xs.take i
  | xs, h, 0, _ => by simp [txM]
  | xs, h, i + 1, hi => by
    rw [txM_succ (by omega), txM_nd h i (by omega)]
    unfold txD
    have hlt : i < xs.length := by omega
    rw [List.getD_eq_getElem?_getD, List.getElem?_eq_getElem hlt]
    show (if (xs.take i).any (· == xs[i]) then xs.take i else xs.take i ++ [xs[i]]) = _
    have : (xs.take i).any (· == xs[i]) = false := by
      rw [List.any_eq_false]
      intro y hy e
      have e : y = xs[i] := by simpa using e
      obtain ⟨j, hj, rfl⟩ := List.getElem_of_mem hy
      rw [List.length_take] at hj
      rw [List.getElem_take] at e
      have := (List.getElem_inj h).mp e
      omega
    rw [this, if_neg (by simp), List.take_succ, List.getElem?_eq_getElem hlt]
    rfl
theorem strsO80 (xs : List Str) : strsO (xs.map PyData.str) = some xs := strsO_map xs
theorem flatS80 : ∀ xs : List Str, flat.flatA (xs.map PyData.str) = true
  | [] => rfl
  | _ :: xs => flatS80 xs
theorem row80 {r : Rt} (hr : RwOk r) {kvs : List (PyData × PyData)} {l : List Str} (hk : kvs.map (·.1) = l.map PyData.str) (hn : r.1 ∉ l) (he : ∀ e ∈ r.2.2, e ∈ l) (hnd : r.2.2.Nodup) :
    u_p_row_in [.d (.list ((wordsT r).map .str)), .c (.dic .k kvs)] = .val (.d (rtD r), [.un, .io (.dic .k kvs)]) := by
  have hel := hr.ln
  have hN := isName80 hr.nm
  have hP := priceIn80 hr.p1 hr.p2
  have hw : (wordsT r).length = r.2.2.length + 2 := rfl
  refine ok_eq (ok_run rfl ?_)
  unfold b_p_row_in
  rw [show initS 4 [Ar.d (.list ((wordsT r).map .str)), .c (.dic .k kvs)] = [.dat false (.list ((wordsT r).map .str)), .io (.dic .k kvs), .un, .un] from rfl]
  have w0 : ∀ {s2 s3 : Sl}, dIxB (dVar 0) (dC (.int 0)) [.dat false (.list ((wordsT r).map .str)), .io (.dic .k kvs), s2, s3] = .val (.d false (.str r.1), [.dat false (.list ((wordsT r).map .str)), .io (.dic .k kvs), s2, s3]) := fun {s2 s3} => e_ixL (e_var rfl) e_C (atI_nat (j := 0) rfl)
  have w1 : ∀ {s2 s3 : Sl}, dIxB (dVar 0) (dC (.int 1)) [.dat false (.list ((wordsT r).map .str)), .io (.dic .k kvs), s2, s3] = .val (.d false (.str (numT r.2.1)), [.dat false (.list ((wordsT r).map .str)), .io (.dic .k kvs), s2, s3]) := fun {s2 s3} => e_ixL (e_var rfl) e_C (atI_nat (j := 1) rfl)
  apply w_ifN
  · exact t_or (t_tst (e_cmp (e_B (a_cons (e_var rfl) a_nil) (k_lenI (enc := PyData.str) (xs := wordsT r) rfl)) e_C rfl)) fun _ => t_or (t_not (t_tst (e_x (x_call (ds := [.str r.1]) (a_cons w0 a_nil) rfl hN) rfl))) fun _ => t_or (t_tst (e_cmp w0 (e_varI rfl) (k_inK80 rfl hk))) fun _ => t_tst (e_cmp (e_x (x_call (ds := [.str (numT r.2.1)]) (a_cons w1 a_nil) rfl hP) rfl) e_C (k_is (p := .int r.2.1) rfl))
  · rw [decide_eq_false hn, hw]
    simp [isN]
    omega
  and_intros
  have hcut : xCut (dVar 0) (oSome (dC (.int 2))) oNone [.dat false (.list ((wordsT r).map .str)), .io (.dic .k kvs), .un, .un] = .val (.c (.lst (r.2.2.map PyData.str)), [.dat false (.list ((wordsT r).map .str)), .io (.dic .k kvs), .un, .un]) :=
    x_cutD80 (f := dVar 0) (o := oSome (dC (.int 2))) (Γ := [.dat false (.list ((wordsT r).map .str)), .io (.dic .k kvs), .un, .un]) (ds := (wordsT r).map PyData.str) (n := 2) (e_var rfl) (o_some e_C) (by
      show (if (false || flat.flatA ((wordsT r).map PyData.str)) = true then some ((wordsT r).map PyData.str) else none) = _
      rw [flatS80]; rfl) (by decide)
  apply w_set
  · exact e_frz (e_xc hcut)
  refine w_n80 (Γ' := [.dat false (.list ((wordsT r).map .str)), .io (.dic .k kvs), .dat true (.list (r.2.2.map .str)), .un]) rfl ?_
  have hset : dLsetT (dVar 2) [.dat false (.list ((wordsT r).map .str)), .io (.dic .k kvs), .dat true (.list (r.2.2.map .str)), .un] = .val (.d true (.int (r.2.2.length : Nat)), [.dat false (.list ((wordsT r).map .str)), .io (.dic .k kvs), .dat true (.list (r.2.2.map .str)), .un]) := by
    unfold dLsetT
    rw [show dVar 2 [.dat false (.list ((wordsT r).map .str)), .io (.dic .k kvs), .dat true (.list (r.2.2.map .str)), .un] = .val (.d true (.list (r.2.2.map .str)), [.dat false (.list ((wordsT r).map .str)), .io (.dic .k kvs), .dat true (.list (r.2.2.map .str)), .un]) from rfl, bind_val]
    have : kLsetTx [.dat false (.list ((wordsT r).map .str)), .io (.dic .k kvs), .dat true (.list (r.2.2.map .str)), .un] (.d true (.list (r.2.2.map .str))) = .val ((r.2.2.length : Nat) : Int) := by
      unfold kLsetTx
      simp only [rdD, strsO80]
      rw [ofO_some, bind_val, txM_nd hnd _ (Nat.le_refl _), List.take_length]
      exact gq_of _ (decide_eq_true (by omega))
    simp only [this]
    rfl
  have hc : nComp [3] (gN 3) (iSeq (dVar 2)) PD.tYes (dFrz (dCmp kInB (dVar 3) (dVar 1))) [.dat false (.list ((wordsT r).map .str)), .io (.dic .k kvs), .dat true (.list (r.2.2.map .str)), .un] = .val (r.2.2.map (fun _ => PyData.bool true), [.dat false (.list ((wordsT r).map .str)), .io (.dic .k kvs), .dat true (.list (r.2.2.map .str)), .un]) :=
    n_map (enc := PyData.str) r.2.2 (fun _ => .bool true) (i_seqL (e_var rfl)) (by omega) rfl fun x hx => ⟨_, rfl, rfl, e_frz (e_cmp (e_var rfl) (e_varI rfl) (by rw [k_inK80 rfl hk, decide_eq_true (he x hx)]))⟩
  apply w_ifN
  · exact t_or (t_tst (e_cmp hset (e_B (a_cons (e_var rfl) a_nil) (k_lenI (enc := PyData.str) (xs := r.2.2) rfl)) rfl)) fun _ => t_not (t_tst (e_B (a_cons (e_ofN hc) a_nil) (k_allT _)))
  · simp
  and_intros
  apply w_ret
  · exact e_tup (a_cons (e_frzT w0 rfl) (a_cons (e_x (x_call (ds := [.str (numT r.2.1)]) (a_cons w1 a_nil) rfl hP) rfl) (a_cons (e_B (a_cons (e_var rfl) a_nil) (k_tup rfl)) a_nil))) rfl rfl
  exact ⟨_, _, rfl, rfl, rfl⟩
end PDW
set_option linter.all false
set_option maxRecDepth 100000
set_option maxHeartbeats 0
set_option autoImplicit false
namespace PDW
open PySem L2 PD
theorem e_split80 {Γ Γ1 Γ2 : List Sl} {f g : DF} {fr fr2 : Bool} {a b : Str} {parts : List Str} (h1 : f Γ = .val (.d fr (.str a), Γ1)) (h2 : g Γ1 = .val (.d fr2 (.str b), Γ2)) (hb : b.length = 1) (ha : a.length ≤ 100000) (hs : Txt.split a b = parts) : dSplit f g Γ = .val (.d true (.list (parts.map PyData.str)), Γ2) := by
  unfold dSplit
  rw [h1, bind_val]
  show ((R.ofO (some a)).bind _) = _
  rw [ofO_some, bind_val]
  show ((g Γ1).bind _) = _
  rw [h2, bind_val]
  show ((R.ofO (some b)).bind _) = _
  rw [ofO_some, bind_val]
  have e : (!(b.length == 0) && decide (a.length + 2 ≤ sizeLine)) = true := by
    have : (100002 : Nat) ≤ sizeLine := by decide
    rw [hb, decide_eq_true (by omega)]; rfl
  rw [e, req_true, bind_val, hs]
theorem join_mem80 {sp : Str} : ∀ {ys : List Str} {c : Nat}, c ∈ PD.tl (Str.join sp ys) → c ∈ PD.tl sp ∨ ∃ y ∈ ys, c ∈ PD.tl y
  | [], c, h => by
    have h : c ∈ ([] : List Nat) := h
    cases h
  | x :: ys, c, h => by
    rw [PD.tl_join] at h
    rcases List.mem_append.mp h with h | h
    · exact .inr ⟨x, by simp, h⟩
    · obtain ⟨y, hy, h⟩ := List.mem_flatMap.mp h
      rcases List.mem_append.mp h with h | h
      · exact .inl h
      · exact .inr ⟨y, by simp [hy], h⟩
theorem word_ch {r : Rt} (h : RwOk r) : ∀ w ∈ wordsT r, ∀ c ∈ PD.tl w, 48 ≤ c ∧ c < 123 := by
  intro w hw c hc
  rcases List.mem_cons.mp hw with rfl | hw
  · have := h.nm.1.2.2 c hc; omega
  rcases List.mem_cons.mp hw with rfl | hw
  · rw [numT_tl (by have := h.p1; omega)] at hc
    have := TL.numL_digits _ c hc
    omega
  · have := (h.el w hw).1.2.2 c hc; omega
theorem row_ch {r : Rt} (h : RwOk r) : 10 ∉ PD.tl (rowT r) := by
  intro hm
  rcases join_mem80 hm with hm | ⟨w, hw, hm⟩
  · rw [sp_tl] at hm; simp at hm
  · have := word_ch h w hw 10 hm; omega
theorem split_rows {rs : List Rt} (h : ∀ r ∈ rs, RwOk r) (hne : rs ≠ []) : Txt.split (txt80 rs) NLs = rs.map rowT := by
  have := TL.split_join (y := NLs) (s := 10) (S := []) nl_tl (by decide +kernel) (parts := rs.map rowT) (by simpa using hne) (fun p hp => by
    obtain ⟨r, hr, rfl⟩ := List.mem_map.mp hp
    exact row_ch (h r hr))
  rw [TL.join_eq] at this
  exact this
theorem split_words {r : Rt} (h : RwOk r) : Txt.split (rowT r) SPs = wordsT r := by
  have := TL.split_join (y := SPs) (s := 32) (S := []) sp_tl (by decide +kernel) (parts := wordsT r) (by simp [wordsT]) (fun p hp hm => by
    have := word_ch h p hp 32 hm; omega)
  rw [TL.join_eq] at this
  exact this
theorem txt80_len {rs : List Rt} (h : ∀ r ∈ rs, RwOk r) (hl : rs.length ≤ 40) : (txt80 rs).length ≤ 100000 := by
  have h1 := join_len NLs (rs.map rowT) (B := 1400) (fun y hy => by
    obtain ⟨r, hr, rfl⟩ := List.mem_map.mp hy
    exact rowT_len (h r hr))
  rw [nl_len, List.length_map] at h1
  have h3 : rs.length * (1400 + 1) ≤ 40 * (1400 + 1) := Nat.mul_le_mul_right _ hl
  exact Nat.le_trans h1 (Nat.le_trans h3 (by decide))
theorem RsOk.fresh {rs : List Rt} (h : RsOk rs) {k : Nat} {r : Rt} (hk : rs[k]? = some r) : r.1 ∉ (rs.take k).map (·.1) := by
  intro hm
  obtain ⟨q, hq, e⟩ := List.mem_map.mp hm
  obtain ⟨j, hj⟩ := List.getElem?_of_mem hq
  rw [List.getElem?_take] at hj
  split at hj
  · rename_i hjk
    have n1 : (rs.map (·.1))[k]? = some r.1 := by rw [List.getElem?_map, hk]; rfl
    have n2 : (rs.map (·.1))[j]? = some q.1 := by rw [List.getElem?_map, hj]; rfl
    rw [e] at n2
    obtain ⟨l1, e1⟩ := List.getElem?_eq_some_iff.mp n1
    obtain ⟨l2, e2⟩ := List.getElem?_eq_some_iff.mp n2
    have := (List.getElem_inj h.nd).mp (e2.trans e1.symm)
    omega
  · cases hj
theorem read80 {rs : List Rt} (h : RsOk rs) : u_p_read_net [.d (.str (txt80 rs))] = .val (.c (.lst (rs.map rtD)), [.un]) := by
  have hl := h.l2
  have hne : rs ≠ [] := fun e => by have := h.l1; rw [e] at this; simp at this
  refine ok_eq (ok_run rfl ?_)
  unfold b_p_read_net
  rw [show initS 6 [Ar.d (.str (txt80 rs))] = [.dat true (.str (txt80 rs)), .un, .un, .un, .un, .un] from rfl]
  apply w_ifN
  · exact t_not (t_tst (e_isi (e_var rfl) rfl rfl))
  · rfl
  and_intros
  apply w_setX
  · exact x_c (c_l (n_lst a_nil rfl rfl))
  apply w_setX
  · exact x_c rfl
  refine w_forE (enc := PyData.str) (rs.map rowT) (fr := true) (S := List Rt × List (PyData × PyData)) (fun i s => s.1 = rs.take i ∧ s.2.map (·.1) = (s.1.map (·.1)).map PyData.str) (fun s => [.dat true (.str (txt80 rs)), .own (.lst (s.1.map rtD)), .own (.dic .k s.2), .un, .un, .un]) ([], []) (i_enumL (e_split80 (b := NLs) (e_var rfl) e_C nl_len (txt80_len h.rows hl) (split_rows h.rows hne))) rfl ⟨rfl, rfl⟩ ?_ ?_
  · rintro i x ⟨qs, kvs⟩ hx ⟨rfl, hk⟩
    dsimp only at hk ⊢
    rw [List.getElem?_map] at hx
    obtain ⟨r, hr, rfl⟩ : ∃ r, rs[i]? = some r ∧ rowT r = x := by
      cases e : rs[i]? with
      | none => rw [e] at hx; cases hx
      | some r => rw [e] at hx; cases hx; exact ⟨r, rfl, rfl⟩
    have hrk := h.row hr
    have hil := (List.getElem?_eq_some_iff.mp hr).1
    obtain ⟨e1, e2⟩ := h.el i r hr
    have hfresh := h.fresh hr
    have hrow := row80 hrk hk hfresh e2 e1
    have hkl : kvs.length ≤ 40 := by
      have := congrArg List.length hk
      simp only [List.length_map, List.length_take] at this
      omega
    refine ⟨_, rfl, ?_⟩
    refine w_n80 (Γ' := [.dat true (.str (txt80 rs)), .own (.lst ((rs.take i).map rtD)), .own (.dic .k kvs), .dat true (nI80 i), .dat true (.str (rowT r)), .un]) rfl ?_
    have hsp : dSplit (dVar 4) (dC (.str " ")) [.dat true (.str (txt80 rs)), .own (.lst ((rs.take i).map rtD)), .own (.dic .k kvs), .dat true (nI80 i), .dat true (.str (rowT r)), .un] = .val (.d true (.list ((wordsT r).map .str)), [.dat true (.str (txt80 rs)), .own (.lst ((rs.take i).map rtD)), .own (.dic .k kvs), .dat true (nI80 i), .dat true (.str (rowT r)), .un]) :=
      e_split80 (b := SPs) (e_var rfl) e_C sp_len (by have := rowT_len hrk; omega) (split_words hrk)
    apply w_set
    · exact e_x (x_callE (a_cons hsp (a_cons (e_varO rfl) a_nil)) rfl rfl rfl rfl hrow rfl rfl) rfl
    refine w_n80 (Γ' := [.dat true (.str (txt80 rs)), .own (.lst ((rs.take i).map rtD)), .own (.dic .k kvs), .dat true (nI80 i), .dat true (.str (rowT r)), .dat true (rtD r)]) rfl ?_
    apply w_ifN
    · exact t_or (t_tst (e_cmp (e_var rfl) e_C (k_is (p := rtD r) rfl))) fun _ => t_tst (e_cmp (e_var rfl) e_C rfl)
    · rw [show isN (rtD r) = false from rfl, Bool.false_or]
      exact decide_eq_false (by omega)
    and_intros
    refine w_put (c := (false, .dic .k kvs)) (c' := .dic .k (kvs ++ [(.str r.1, nI80 i)])) (v := nI80 i) (kk := .str r.1) (e_frz (e_var rfl)) rfl (e_ixT (ds := [.str r.1, .int r.2.1, .tuple (r.2.2.map .str)]) (e_var rfl) e_C rfl) rfl ?_ ?_
    · show (if kOk .k (.str r.1) && decide (kvs.length < sizeLine) then some (Cl.dic .k (putD kvs (.str r.1) (nI80 i))) else none) = _
      have : (100 : Nat) < sizeLine := by decide
      rw [putK80 hk hfresh, decide_eq_true (by omega)]
      rfl
    apply w_expr
    · exact e_app (io := false) (Γ1 := [.dat true (.str (txt80 rs)), .own (.lst ((rs.take i).map rtD)), .own (.dic .k (kvs ++ [(.str r.1, nI80 i)])), .dat true (nI80 i), .dat true (.str (rowT r)), .dat true (rtD r)]) (es := (rs.take i).map rtD) (ds := (rs.take i).map rtD) (d := rtD r) rfl (e_var rfl) rfl (ltS_of (by rw [List.length_map, List.length_take]; omega))
    refine w_n80 (Γ' := [.dat true (.str (txt80 rs)), .own (.lst ((rs.take i ++ [r]).map rtD)), .own (.dic .k (kvs ++ [(.str r.1, nI80 i)])), .dat true (nI80 i), .dat true (.str (rowT r)), .dat true (rtD r)]) (by rw [List.map_append]; rfl) ?_
    refine w_nil ⟨(rs.take i ++ [r], kvs ++ [(.str r.1, nI80 i)]), rfl, by dsimp only; rw [List.take_succ, hr]; rfl, ?_⟩
    dsimp only
    rw [List.map_append, List.map_append, List.map_append, hk]
    rfl
  · rintro ⟨qs, kvs⟩ ⟨rfl, hk⟩
    dsimp only
    rw [List.length_map, List.take_length]
    apply w_retO
    · rfl
    exact ⟨_, _, rfl, rfl, rfl⟩
theorem prices80 {rs : List Rt} (h : RsOk rs) (tp : Bool) : u_p_prices_in [.d (if tp then .tuple (rs.map rtD) else .list (rs.map rtD))] = .val (.c (.lst (rs.map fun r => .int r.2.1)), [.un]) := by
  have hl := h.l2
  obtain ⟨d, hd⟩ : ∃ d, d = (if tp then PyData.tuple (rs.map rtD) else PyData.list (rs.map rtD)) := ⟨_, rfl⟩
  rw [← hd]
  have hi : iSeq (dVar 0) [.dat false d, .un] = .val ((rs.map rtD, false), [.dat false d, .un]) := by
    subst hd
    cases tp
    · exact i_seqL (e_var rfl)
    · exact i_seqT (e_var rfl)
  have e0 : initS 2 [Ar.d d] = [.dat false d, .un] := by
    subst hd
    cases tp <;> rfl
  clear hd
  refine ok_eq (ok_run rfl ?_)
  unfold b_p_prices_in
  rw [e0]
  have hc : nComp [1] (gN 1) (iSeq (dVar 0)) PD.tYes (dFrz (dIxB (dVar 1) (dC (.int 1)))) [.dat false d, .un] = .val (rs.map (fun r => PyData.int r.2.1), [.dat false d, .un]) :=
    n_map (enc := rtD) rs (fun r => .int r.2.1) hi (by omega) rfl fun r hr => ⟨_, rfl, rfl, e_frzT (e_ixT (ds := [.str r.1, .int r.2.1, .tuple (r.2.2.map .str)]) (e_var rfl) e_C rfl) rfl⟩
  apply w_retC
  · exact c_l hc
  exact ⟨_, _, rfl, rfl, rfl⟩
end PDW
set_option linter.all false
set_option maxRecDepth 100000
set_option maxHeartbeats 0
set_option autoImplicit false
namespace PDW
open PySem L2 PD
def ixO (l : List Str) (e : Str) : Nat := (l.findIdx? (· == e)).getD 0
theorem ixO_some {l : List Str} {e : Str} (h : e ∈ l) : l.findIdx? (· == e) = some (ixO l e) := by
  unfold ixO
  cases hz : l.findIdx? (· == e) with
  | none =>
    rw [List.findIdx?_eq_none_iff] at hz
    have := hz e h
    simp at this
  | some j => rfl
theorem ixO_at {l : List Str} {e : Str} (h : e ∈ l) : l[ixO l e]? = some e := by
  have := ixO_some h
  rw [List.findIdx?_eq_some_iff_getElem] at this
  obtain ⟨hl, h1, _⟩ := this
  rw [List.getElem?_eq_getElem hl]
  have : l[ixO l e] = e := by simpa using h1
  rw [this]
theorem ixO_lt {l : List Str} {e : Str} {k : Nat} (h : e ∈ l.take k) : ixO l e < k := by
  have hm := List.mem_of_mem_take h
  have := ixO_some hm
  rw [List.findIdx?_eq_some_iff_getElem] at this
  obtain ⟨hl, h1, h2⟩ := this
  obtain ⟨j, hj⟩ := List.getElem?_of_mem h
  rw [List.getElem?_take] at hj
  split at hj
  · rename_i hjk
    obtain ⟨jl, je⟩ := List.getElem?_eq_some_iff.mp hj
    rcases Nat.lt_or_ge j (ixO l e) with q | q
    · have := h2 j q
      rw [je] at this
      simp at this
    · omega
  · cases hj
theorem ixO_inj {l : List Str} {e e' : Str} (h : e ∈ l) (h' : e' ∈ l) (q : ixO l e = ixO l e') : e = e' := by
  have a := ixO_at h
  have b := ixO_at h'
  rw [q, b] at a
  exact (Option.some.inj a).symm
abbrev nms (rs : List Rt) : List Str := rs.map (·.1)
abbrev ixR (rs : List Rt) (r : Rt) : List Int := r.2.2.map fun e => ((ixO (nms rs) e : Nat) : Int)
theorem lay_nms : ∀ {l : List Str}, (∀ s ∈ l, PyData.strOk s = true) → PyData.canLayAll0 (l.map PyData.str) = true ∧ PyData.depthAll (l.map PyData.str) = 0
  | [], _ => ⟨rfl, rfl⟩
  | x :: l, h => by
    obtain ⟨a, b⟩ := lay_nms fun s hs => h s (List.mem_cons_of_mem x hs)
    have c := h x (by simp)
    exact ⟨by simp [PyData.canLayAll0, PyData.canLay0, a, c], by simp [PyData.depthAll, PyData.depth, b]⟩
theorem e_idx80 {Γ Γ1 Γ2 : List Sl} {f g : DF} {fr fr2 : Bool} {l : List Str} {e : Str} (h1 : f Γ = .val (.d fr (.list (l.map .str)), Γ1)) (h2 : g Γ1 = .val (.d fr2 (.str e), Γ2)) (hl : ∀ s ∈ l, PyData.strOk s = true) (he : e ∈ l) : dIdxL f g Γ = .val (.d true (.int (ixO l e : Nat)), Γ2) := by
  have sh1 : SeqAt.shaped (.list (l.map PyData.str)) = true := by
    obtain ⟨a, b⟩ := lay_nms hl
    unfold SeqAt.shaped
    rw [Bool.and_eq_true]
    exact ⟨by simpa [PyData.canLay0] using a, decide_eq_true (by simp [PyData.depth, b])⟩
  have sh2 := shS (hl e he)
  have hi : idxD (l.map PyData.str) (.str e) = some (ixO l e) := by
    unfold idxD
    rw [List.findIdx?_map]
    exact ixO_some he
  unfold dIdxL
  rw [h1, bind_val]
  show ((R.req true).bind _) = _
  rw [req_true, bind_val]
  simp only [h2, bind_val, rdD, sh1, sh2, Bool.and_self, req_true, hi]
  rfl
theorem RsOk.rowsOk {rs : List Rt} (h : RsOk rs) : RowsOk (rs.map (ixR rs)) := by
  intro k r hk
  rw [List.getElem?_map] at hk
  cases hr : rs[k]? with
  | none => rw [hr] at hk; cases hk
  | some q =>
    rw [hr] at hk
    cases hk
    obtain ⟨e1, e2⟩ := h.el k q hr
    have hlt : ∀ e ∈ q.2.2, ixO (nms rs) e < k := fun e he => ixO_lt (by
      have := e2 e he
      rw [List.map_take] at this
      exact this)
    have hmem : ∀ e ∈ q.2.2, e ∈ nms rs := fun e he => by
      have := e2 e he
      rw [List.map_take] at this
      exact List.mem_of_mem_take this
    refine ⟨fun x hx => ?_, ?_, ?_⟩
    · obtain ⟨e, he, rfl⟩ := List.mem_map.mp hx
      have := hlt e he
      omega
    · have key : ∀ es : List Str, es.Nodup → (∀ e ∈ es, e ∈ nms rs) → (es.map fun e => ((ixO (nms rs) e : Nat) : Int)).Nodup := by
        intro es
        induction es with
        | nil => intro _ _; exact List.nodup_nil
        | cons e es ih =>
          intro hn hm
          rw [List.nodup_cons] at hn
          rw [List.map_cons, List.nodup_cons]
          refine ⟨fun q => ?_, ih hn.2 fun x hx => hm x (List.mem_cons_of_mem _ hx)⟩
          obtain ⟨e', he', eq⟩ := List.mem_map.mp q
          have := ixO_inj (hm e' (List.mem_cons_of_mem _ he')) (hm e (by simp)) (by omega)
          exact hn.1 (this ▸ he')
      exact key q.2.2 e1 hmem
    · have := (h.row hr).ln
      rw [List.length_map]; omega
def net80 (rs : List Rt) : List (List Int) := netR (rs.map (ixR rs))
theorem netIn80 {rs : List Rt} (h : RsOk rs) (tp : Bool) : u_p_net_in [.d (if tp then .tuple (rs.map rtD) else .list (rs.map rtD))] = .val (.d (dTT (net80 rs)), [.un]) := by
  have hl := h.l2
  have hl1 := h.l1
  have hnm : u_p_names_in [.d (if tp then .tuple (rs.map rtD) else .list (rs.map rtD))] = .val (.c (.lst ((nms rs).map .str)), [.un]) := by
    have := namesIn_q tp (rs.map fun r => (r.1, r.2.1, PyData.tuple (r.2.2.map .str))) (by rw [List.length_map]; omega)
    have e1 : (rs.map fun r : Rt => (r.1, r.2.1, PyData.tuple (r.2.2.map .str))).map rwD = rs.map rtD := by rw [List.map_map]; rfl
    have e2 : (rs.map fun r : Rt => (r.1, r.2.1, PyData.tuple (r.2.2.map .str))).map (·.1) = nms rs := by rw [List.map_map]; rfl
    rw [e1, e2] at this
    exact this
  have hok : ∀ s ∈ nms rs, PyData.strOk s = true := fun s hs => by
    obtain ⟨r, hr, rfl⟩ := List.mem_map.mp hs
    exact (h.nm r hr).1.1.as.ok
  obtain ⟨d, hd⟩ : ∃ d, d = (if tp then PyData.tuple (rs.map rtD) else PyData.list (rs.map rtD)) := ⟨_, rfl⟩
  rw [← hd] at hnm ⊢
  have hi : ∀ {Γ : List Sl}, Γ[0]? = some (.dat false d) → iSeq (dVar 0) Γ = .val ((rs.map rtD, false), Γ) := fun {Γ} hg => by
    subst hd
    cases tp
    · exact i_seqL (e_var hg)
    · exact i_seqT (e_var hg)
  have e0 : initS 7 [Ar.d d] = [.dat false d, .un, .un, .un, .un, .un, .un] := by
    subst hd
    cases tp <;> rfl
  clear hd
  refine ok_eq (ok_run rfl ?_)
  unfold b_p_net_in
  rw [e0]
  apply w_set
  · exact e_xc (x_call (ds := [d]) (a_cons (e_var rfl) a_nil) rfl hnm)
  apply w_setX
  · exact x_c (c_l (n_lst a_nil rfl rfl))
  refine w_forL (enc := rtD) rs (S := List Rt) (fun i s => s = rs.take i) (fun s => [.dat false d, .dat true (.list ((nms rs).map .str)), .own (.lst ((s.map (ixR rs)).map fun r => dL r)), .un, .un, .un, .un]) [] (hi rfl) rfl rfl ?_ ?_
  · rintro i r s hr rfl
    have hil := (List.getElem?_eq_some_iff.mp hr).1
    obtain ⟨e1, e2⟩ := h.el i r hr
    have hrl := (h.row hr).ln
    refine ⟨_, rfl, ?_⟩
    refine w_n80 (Γ' := [.dat false d, .dat true (.list ((nms rs).map .str)), .own (.lst (((rs.take i).map (ixR rs)).map fun r => dL r)), .dat false (.str r.1), .dat false (.int r.2.1), .dat false (.tuple (r.2.2.map .str)), .un]) rfl ?_
    have hc : nComp [6] (gN 6) (iSeq (dVar 5)) PD.tYes (dFrz (dIdxL (dVar 1) (dVar 6))) [.dat false d, .dat true (.list ((nms rs).map .str)), .own (.lst (((rs.take i).map (ixR rs)).map fun r => dL r)), .dat false (.str r.1), .dat false (.int r.2.1), .dat false (.tuple (r.2.2.map .str)), .un] = .val (r.2.2.map (fun e => PyData.int (ixO (nms rs) e : Nat)), [.dat false d, .dat true (.list ((nms rs).map .str)), .own (.lst (((rs.take i).map (ixR rs)).map fun r => dL r)), .dat false (.str r.1), .dat false (.int r.2.1), .dat false (.tuple (r.2.2.map .str)), .un]) :=
      n_map (enc := PyData.str) r.2.2 (fun e => .int (ixO (nms rs) e : Nat)) (i_seqT (e_var rfl)) (by omega) rfl fun e he => ⟨_, rfl, rfl, e_frz (e_idx80 (l := nms rs) (e_var rfl) (e_var rfl) hok (by
        have := e2 e he
        rw [List.map_take] at this
        exact List.mem_of_mem_take this))⟩
    have hdl : PyData.list (r.2.2.map fun e => PyData.int (ixO (nms rs) e : Nat)) = dL (ixR rs r) := by
      unfold dL
      rw [List.map_map]; rfl
    apply w_expr
    · exact e_app (io := false) (Γ1 := [.dat false d, .dat true (.list ((nms rs).map .str)), .own (.lst (((rs.take i).map (ixR rs)).map fun r => dL r)), .dat false (.str r.1), .dat false (.int r.2.1), .dat false (.tuple (r.2.2.map .str)), .un]) (es := ((rs.take i).map (ixR rs)).map fun r => dL r) (ds := ((rs.take i).map (ixR rs)).map fun r => dL r) (d := dL (ixR rs r)) rfl (by rw [← hdl]; exact e_ofN hc) rfl (ltS_of (by rw [List.length_map, List.length_map, List.length_take]; omega))
    refine w_n80 (Γ' := [.dat false d, .dat true (.list ((nms rs).map .str)), .own (.lst (((rs.take i ++ [r]).map (ixR rs)).map fun r => dL r)), .dat false (.str r.1), .dat false (.int r.2.1), .dat false (.tuple (r.2.2.map .str)), .un]) (by rw [List.map_append, List.map_append]; rfl) ?_
    exact w_nil ⟨rs.take i ++ [r], rfl, by rw [List.take_succ, hr]; rfl⟩
  · rintro s rfl
    rw [List.take_length]
    have hN := netOf_u (rs.map (ixR rs)) h.rowsOk (by rw [List.length_map]; exact hl1) (by rw [List.length_map]; exact hl)
    apply w_retX
    · exact x_call (ds := [dLL (rs.map (ixR rs))]) (a_cons (e_varO rfl) a_nil) rfl hN
    exact ⟨_, _, rfl, rfl, rfl⟩
end PDW
set_option linter.all false
set_option maxRecDepth 100000
set_option maxHeartbeats 0
set_option autoImplicit false
namespace PDW
open PySem L2 PD
inductive SmE : Nat → PyData → Prop
  | int (n : Nat) (i : Int) : SmE n (.int i)
  | str (n : Nat) (s : Str) : AsOk s → SmE n (.str s)
  | lst (n : Nat) (xs : List PyData) : (∀ x ∈ xs, SmE n x) → xs.length ≤ 100000 → SmE (n + 1) (.list xs)
  | tup (n : Nat) (xs : List PyData) : (∀ x ∈ xs, SmE n x) → xs.length ≤ 100000 → SmE (n + 1) (.tuple xs)
theorem zipD_self80 (xs : List PyData) : zipD xs xs = xs.map fun x => .tuple [x, x] := by
  unfold zipD
  induction xs with
  | nil => rfl
  | cons x r ih => rw [List.zipWith_cons_cons, ih]; rfl
theorem k_neB80 {Γ : List Sl} {f1 f2 a : Bool} : kNe Γ (.d f1 (.bool a)) (.d f2 (.bool a)) = .val false := by
  have := k_ne (Γ := Γ) (a := .d f1 (.bool a)) (b := .d f2 (.bool a)) (p := .bool a) (q := .bool a) rfl rfl rfl rfl (z := true) (by cases a <;> rfl)
  exact this
theorem k_neI80 {Γ : List Sl} {f1 f2 : Bool} {i : Int} : kNe Γ (.d f1 (.int i)) (.d f2 (.int i)) = .val false := by
  have := k_ne (Γ := Γ) (a := .d f1 (.int i)) (b := .d f2 (.int i)) (p := .int i) (q := .int i) rfl rfl rfl rfl (z := true) (by simp [PyData.eqv])
  exact this
theorem lay_bools80 {α : Type} : ∀ xs : List α, PyData.canLayAll0 (xs.map fun _ => PyData.bool true) = true ∧ PyData.depthAll (xs.map fun _ => PyData.bool true) = 0
  | [] => ⟨rfl, rfl⟩
  | x :: xs => by
    obtain ⟨a, b⟩ := lay_bools80 xs
    exact ⟨by simp [PyData.canLayAll0, PyData.canLay0, a], by simp [PyData.depthAll, PyData.depth, b]⟩
theorem k_ninT80 {Γ : List Sl} {f1 f2 : Bool} {α : Type} (xs : List α) : kNinB Γ (.d f1 (.bool false)) (.d f2 (.list (xs.map fun _ => PyData.bool true))) = .val true := by
  have sh : SeqAt.shaped (.list (xs.map fun _ => PyData.bool true)) = true := by
    obtain ⟨a, b⟩ := lay_bools80 xs
    unfold SeqAt.shaped
    rw [Bool.and_eq_true]
    exact ⟨by simpa [PyData.canLay0] using a, decide_eq_true (by simp [PyData.depth, b])⟩
  have hk : kIn Γ (.d f1 (.bool false)) (.d f2 (.list (xs.map fun _ => PyData.bool true))) = .val false := by
    show gq (SeqAt.shaped (.bool false) && SeqAt.shaped (.list (xs.map fun _ => PyData.bool true))) ((xs.map fun _ => PyData.bool true).any fun z => PyData.eqv z (.bool false)) = _
    rw [sh]
    have e : ((xs.map fun _ => PyData.bool true).any fun z => PyData.eqv z (.bool false)) = false := by
      rw [List.any_eq_false]
      intro z hz
      obtain ⟨x, hx, rfl⟩ := List.mem_map.mp hz
      simp [PyData.eqv]
    rw [e]
    exact gq_of _ rfl
  unfold kNinB kInB
  show (R.bind (kIn Γ (.d f1 (.bool false)) (.d f2 (.list (xs.map fun _ => PyData.bool true)))) fun z => R.val (!z)) = _
  rw [hk]; rfl
theorem same80 : ∀ (n : Nat) (F : Nat) (d : PyData), SmE n d → n < F → u_qsame_k80 F [.d d, .d d] = .val (.d (.bool true), [.un, .un])
  | _, 0, _, _, h => absurd h (Nat.not_lt_zero _)
  | _, F + 1, _, .int n i, h => by
    refine ok_eq (ok_run rfl ?_)
    unfold b_qsame_k80
    apply w_ifN
    · exact t_tst (e_isi (e_var rfl) rfl rfl)
    · rfl
    and_intros
    apply w_ifN
    · exact t_tst (e_isi (e_var rfl) rfl rfl)
    · rfl
    and_intros
    apply w_ret
    · exact e_and (e_isi (e_var rfl) rfl rfl) fun _ => e_and (e_not (e_isi (e_var rfl) rfl rfl)) fun _ => e_cmp (e_var rfl) (e_var rfl) k_eqI
    refine ⟨_, _, rfl, rfl, ?_⟩
    simp [tyIs]
  | _, F + 1, _, .str n s hs, h => by
    refine ok_eq (ok_run rfl ?_)
    unfold b_qsame_k80
    apply w_ifN
    · exact t_tst (e_isi (e_var rfl) rfl rfl)
    · rfl
    and_intros
    apply w_ifY
    · exact t_tst (e_isi (e_var rfl) rfl rfl)
    · rfl
    and_intros
    apply w_ret
    · exact e_and (e_isi (e_var rfl) rfl rfl) fun _ => e_cmp (e_var rfl) (e_var rfl) (k_eqTx hs hs)
    refine ⟨_, _, rfl, rfl, ?_⟩
    simp [tyIs]
  | _, F + 1, _, .lst n xs hx hl, h => by
    have ih := fun x (hxx : x ∈ xs) => same80 n F x (hx x hxx) (by omega)
    refine ok_eq (ok_run rfl ?_)
    unfold b_qsame_k80
    rw [show initS 4 [Ar.d (.list xs), Ar.d (.list xs)] = [.dat false (.list xs), .dat false (.list xs), .un, .un] from rfl]
    apply w_ifY
    · exact t_tst (e_isi (e_var rfl) rfl rfl)
    · rfl
    and_intros
    apply w_ifN
    · exact t_or (t_tst (e_cmp (e_isi (e_var rfl) rfl rfl) (e_isi (e_var rfl) rfl rfl) k_neB80)) fun _ => t_tst (e_cmp (e_isi (e_var rfl) rfl rfl) (e_isi (e_var rfl) rfl rfl) k_neB80)
    · rfl
    and_intros
    apply w_ifN
    · exact t_tst (e_cmp (e_B (a_cons (e_var rfl) a_nil) (k_lenL rfl)) (e_B (a_cons (e_var rfl) a_nil) (k_lenL rfl)) k_neI80)
    · rfl
    and_intros
    apply w_ret
    · refine e_cmp e_C (e_ofN (n_map (enc := fun x => .tuple [x, x]) xs (fun _ => .bool true) (fr := false) (Γ1 := [.dat false (.list xs), .dat false (.list xs), .un, .un]) ?_ (by omega) rfl fun x hxx => ?_)) (k_ninT80 xs)
      · rw [← zipD_self80]
        exact i_zipX (f1 := false) (f2 := false) (e_var rfl) (e_var rfl) rfl rfl
      · exact ⟨_, rfl, rfl, e_frz (e_x (x_call (a_cons (e_var rfl) (a_cons (e_var rfl) a_nil)) rfl (ih x hxx)) rfl)⟩
    exact ⟨_, _, rfl, rfl, rfl⟩
  | _, F + 1, _, .tup n xs hx hl, h => by
    have ih := fun x (hxx : x ∈ xs) => same80 n F x (hx x hxx) (by omega)
    refine ok_eq (ok_run rfl ?_)
    unfold b_qsame_k80
    obtain ⟨c, hc⟩ : ∃ c, scD (.tuple xs) = c := ⟨_, rfl⟩
    rw [show initS 4 [Ar.d (.tuple xs), Ar.d (.tuple xs)] = [.dat c (.tuple xs), .dat c (.tuple xs), .un, .un] by rw [← hc]; rfl]
    apply w_ifY
    · exact t_tst (e_isi (e_var rfl) rfl rfl)
    · rfl
    and_intros
    apply w_ifN
    · exact t_or (t_tst (e_cmp (e_isi (e_var rfl) rfl rfl) (e_isi (e_var rfl) rfl rfl) k_neB80)) fun _ => t_tst (e_cmp (e_isi (e_var rfl) rfl rfl) (e_isi (e_var rfl) rfl rfl) k_neB80)
    · rfl
    and_intros
    apply w_ifN
    · exact t_tst (e_cmp (e_B (a_cons (e_var rfl) a_nil) (k_lenT rfl)) (e_B (a_cons (e_var rfl) a_nil) (k_lenT rfl)) k_neI80)
    · rfl
    and_intros
    apply w_ret
    · refine e_cmp e_C (e_ofN (n_map (enc := fun x => .tuple [x, x]) xs (fun _ => .bool true) (fr := c && c) (Γ1 := [.dat c (.tuple xs), .dat c (.tuple xs), .un, .un]) ?_ (by omega) rfl fun x hxx => ?_)) (k_ninT80 xs)
      · rw [← zipD_self80]
        exact i_zipX (f1 := c) (f2 := c) (e_var rfl) (e_var rfl) rfl rfl
      · exact ⟨_, rfl, rfl, e_frz (e_x (x_call (a_cons (e_var rfl) (a_cons (e_var rfl) a_nil)) rfl (ih x hxx)) rfl)⟩
    exact ⟨_, _, rfl, rfl, rfl⟩
theorem sm_ints (n : Nat) : ∀ ns : List Int, ∀ x ∈ ns.map PyData.int, SmE n x := fun ns x hx => by
  obtain ⟨i, _, rfl⟩ := List.mem_map.mp hx
  exact .int n i
theorem sm_row {r : Rt} (h : RwOk r) : SmE 2 (rtD r) := by
  have hl := h.ln
  refine .tup 1 _ (fun x hx => ?_) (by simp)
  rcases List.mem_cons.mp hx with rfl | hx
  · exact .str 1 _ h.nm.1.as
  rcases List.mem_cons.mp hx with rfl | hx
  · exact .int 1 _
  rw [List.mem_singleton.mp hx]
  refine .tup 0 _ (fun y hy => ?_) (by rw [List.length_map]; omega)
  obtain ⟨e, he, rfl⟩ := List.mem_map.mp hy
  exact .str 0 _ (h.el e he).1.as
theorem sm_rows {rs : List Rt} (h : RsOk rs) : SmE 3 (.list (rs.map rtD)) := by
  have hl := h.l2
  refine .lst 2 _ (fun x hx => ?_) (by rw [List.length_map]; omega)
  obtain ⟨r, hr, rfl⟩ := List.mem_map.mp hx
  exact sm_row (h.rows r hr)
theorem sortI_len80 (xs : List Int) : (sortI xs).length = xs.length := (sortI_perm xs).length_eq
theorem sm_net {rs : List Rt} (h : RsOk rs) : SmE 2 (dTT (net80 rs)) := by
  have hl := h.l2
  refine .tup 1 _ (fun x hx => ?_) (by unfold net80 netR; simp only [List.length_map]; omega)
  obtain ⟨q, hq, rfl⟩ := List.mem_map.mp hx
  unfold net80 netR at hq
  obtain ⟨y, hy, rfl⟩ := List.mem_map.mp hq
  obtain ⟨r, hr, rfl⟩ := List.mem_map.mp hy
  have hrl := (h.rows r hr).ln
  exact .tup 0 _ (sm_ints 0 _) (by rw [List.length_map, sortI_len80, List.length_map]; omega)
theorem sm_prices {rs : List Rt} (h : RsOk rs) : SmE 1 (.list (rs.map fun r => .int r.2.1)) := by
  have hl := h.l2
  refine .lst 0 _ (fun x hx => ?_) (by rw [List.length_map]; omega)
  obtain ⟨r, hr, rfl⟩ := List.mem_map.mp hx
  exact .int 0 _
theorem txt_as80 {rs : List Rt} (h : ∀ r ∈ rs, RwOk r) : AsOk (txt80 rs) := by
  intro c hc
  rcases join_mem80 hc with hc | ⟨y, hy, hc⟩
  · rw [nl_tl] at hc
    have := List.mem_singleton.mp hc
    omega
  · obtain ⟨r, hr, rfl⟩ := List.mem_map.mp hy
    rcases join_mem80 hc with hc | ⟨w, hw, hc⟩
    · rw [sp_tl] at hc
      have := List.mem_singleton.mp hc
      omega
    · have := word_ch (h r hr) w hw c hc
      omega
theorem sh_rows {rs : List Rt} (h : RsOk rs) : SeqAt.shaped (.list (rs.map rtD)) = true := by
  have h1 : ∀ qs : List Rt, (∀ r ∈ qs, RwOk r) → PyData.canLayAll0 (qs.map rtD) = true ∧ PyData.depthAll (qs.map rtD) ≤ 3 := by
    intro qs
    induction qs with
    | nil => intro _; exact ⟨rfl, by decide⟩
    | cons r qs ih =>
      intro hq
      obtain ⟨a, b⟩ := ih fun z hz => hq z (List.mem_cons_of_mem _ hz)
      have hr := hq r (by simp)
      obtain ⟨c, d⟩ := lay_nms (l := r.2.2) fun s hs => (hr.el s hs).1.as.ok
      have e := hr.nm.1.as.ok
      refine ⟨by simp [rtD, PyData.canLayAll0, PyData.canLay0, a, c, e], ?_⟩
      simp [rtD, PyData.depthAll, PyData.depth, d]
      omega
  obtain ⟨a, b⟩ := h1 rs h.rows
  unfold SeqAt.shaped
  rw [Bool.and_eq_true]
  exact ⟨by simpa [PyData.canLay0] using a, decide_eq_true (by simp [PyData.depth]; omega)⟩
end PDW
set_option linter.all false
set_option maxRecDepth 100000
set_option maxHeartbeats 0
set_option autoImplicit false
namespace PDW
open PySem L2 PD
theorem x_callN80 {Γ Γ1 : List Sl} {m : List Ar → R (Rs × List Sl)} {dds : List PyData} {n0 : DC} {cs : List Int} {c : Cl} {r : Rs} {Z : List Sl} (h1 : n0 Γ = .val (c, Γ1)) (h2 : m (arN c cs dds) = .val (r, Z)) : xCallN m dds n0 cs Γ = .val (r, Γ1) := by
  unfold xCallN
  rw [h1, bind_val]
  show ((R.req true).bind _) = _
  rw [req_true, bind_val, h2]; rfl
theorem n_X80 {Γ Γ1 : List Sl} {x : DX} {c : Cl} (h : x Γ = .val (.c c, Γ1)) : nX x Γ = .val (c, Γ1) := by unfold nX; rw [h]; rfl
theorem e_clr80 {Γ : List Sl} {m : Nat} {io : Bool} {es : List PyData} (h0 : cellL Γ m = some (io, es)) : dLm m qClear dA0 Γ = .val (.d true .none, Γ.set m (mkS io (.lst []))) := by
  unfold dLm
  rw [h0, ofO_some, bind_val, a_nil, bind_val, h0, ofO_some, bind_val]
  rfl
theorem getApp80 {kvs : List (PyData × PyData)} {s e : Str} {v : PyData} {l : List Str} (h : kvs.map (·.1) = l.map PyData.str) (hs : s ∉ l) : getD (kvs ++ [(.str s, v)]) (.str e) = if e = s then some v else getD kvs (.str e) := by
  unfold getD
  rw [List.find?_append]
  by_cases q : e = s
  · subst q
    have hn : kvs.find? (fun z => eqK z.1 (.str e)) = none := by
      have := getK80 (s := e) h
      rw [decide_eq_false hs] at this
      unfold getD at this
      rw [Option.isSome_map] at this
      exact Option.isNone_iff_eq_none.mp (by rw [Option.isNone_iff_eq_none]; exact Option.not_isSome_iff_eq_none.mp (by rw [this]; simp))
    rw [hn, if_pos rfl]
    have e1 : eqK (.str e) (.str e) = true := by show decide (e = e) = true; exact decide_eq_true rfl
    simp [e1]
  · rw [if_neg q]
    have e1 : eqK (.str s) (.str e) = false := decide_eq_false fun z => q z.symm
    simp [e1]
theorem e_ixK80 {Γ Γ1 Γ2 : List Sl} {f g : DF} {x : AV} {fr fr2 : Bool} {e : Str} {v : PyData} {kvs : List (PyData × PyData)} (h1 : f Γ = .val (x, Γ1)) (h2 : g Γ1 = .val (.d fr2 (.str e), Γ2)) (h3 : dicA Γ2 x = some (fr, .k, kvs)) (h4 : getD kvs (.str e) = some v) : dIxB f g Γ = .val (.d fr v, Γ2) := by
  unfold dIxB
  rw [h1, bind_val, h2, bind_val]
  unfold ixB
  rw [h3]
  simp only
  rw [h4]
  rfl
abbrev prD80 (rs : List Rt) : List PyData := rs.map fun r : Rt => PyData.int r.2.1
abbrev M80 (ns : List Int) (rs : List Rt) (s4 s5 s6 s7 s8 s9 s10 : Sl) : List Sl := [.dat false (dL ns), .dat true (.list (rs.map rtD)), .dat true (.list (rs.map rtD)), .dat true (.str (txt80 rs)), s4, s5, s6, s7, s8, s9, s10, .un, .un]
theorem nm_inj80 {l : List Str} (h : l.Nodup) {i j : Nat} {s : Str} (h1 : l[i]? = some s) (h2 : l[j]? = some s) : i = j := by
  obtain ⟨l1, e1⟩ := List.getElem?_eq_some_iff.mp h1
  obtain ⟨l2, e2⟩ := List.getElem?_eq_some_iff.mp h2
  exact (List.getElem_inj h).mp (e1.trans e2.symm)
theorem law_true (ns : List Int) (h : ns.length ≤ 63) : u_p_law [.d (.list (ns.map .int))] = .val (.d (.bool true), [.un]) := by
  refine ok_eq (ok_run rfl ?_)
  unfold b_p_law
  have hf := feed_q ns
  generalize ((cutD ns none (some 63), 0, 0) : Fd) = f0 at hf
  obtain ⟨rs, f', hnd, H⟩ := named80 f0
  have hl := H.l2
  have hT := text80 H
  have hR := read80 H
  have hS0 := show80 H false
  have hS1 := show80 H true
  have hP0 := prices80 H false
  have hP1 := prices80 H true
  have hN0 := netIn80 H false
  have hN1 := netIn80 H true
  have sR := same80 3 64 _ (sm_rows H) (by decide)
  have sT := same80 0 64 _ (SmE.str 0 _ (txt_as80 H.rows)) (by decide)
  have sN := same80 2 64 _ (sm_net H) (by decide)
  have sP := same80 1 64 _ (sm_prices H) (by decide)
  apply w_set
  · exact e_xc (x_callN80 (n_X80 (x_call (ds := [dL ns]) (a_cons (e_var rfl) a_nil) rfl hf)) hnd)
  apply w_set
  · exact e_ofN (n_B (a_cons (e_var rfl) a_nil) (k_list rfl rfl))
  apply w_set
  · exact e_x (x_call (ds := [.list (rs.map rtD)]) (a_cons (e_var rfl) a_nil) rfl hT) rfl
  apply w_setX
  · exact x_c rfl
  refine w_n80 (Γ' := M80 ns rs (.own (.dic .k [])) .un .un .un .un .un .un) rfl ?_
  refine w_forR (fr := true) (N := (rs.length : Nat)) (S := List (PyData × PyData)) (fun i s => s.map (·.1) = ((nms rs).take i).map PyData.str ∧ ∀ e ∈ (nms rs).take i, getD s (.str e) = some (.int (ixO (nms rs) e : Nat))) (fun s => M80 ns rs (.own (.dic .k s)) .un .un .un .un .un .un) [] (i_range1 (e_B (a_cons (e_var rfl) a_nil) (k_lenI (enc := rtD) (xs := rs) rfl)) (cRng_of (by decide) (by decide) (by omega) (by omega))) rfl ⟨rfl, by simp⟩ ?_ ?_
  · rintro i kvs hi ⟨k1, k2⟩
    have hil : i < rs.length := by omega
    obtain ⟨r, hr⟩ : ∃ r, rs[i]? = some r := ⟨_, List.getElem?_eq_getElem hil⟩
    have hfr := H.fresh hr
    rw [List.map_take] at hfr
    have hat : (nms rs)[i]? = some r.1 := by rw [List.getElem?_map, hr]; rfl
    have hkl : kvs.length ≤ 40 := by
      have := congrArg List.length k1
      simp only [List.length_map, List.length_take] at this
      omega
    have hix : ixO (nms rs) r.1 = i := nm_inj80 H.nd (ixO_at (List.mem_of_getElem? hat)) hat
    refine ⟨_, rfl, ?_⟩
    refine w_n80 (Γ' := M80 ns rs (.own (.dic .k kvs)) (.dat true (nI80 i)) .un .un .un .un .un) rfl ?_
    refine w_put (c := (false, .dic .k kvs)) (c' := .dic .k (kvs ++ [(.str r.1, nI80 i)])) (v := nI80 i) (kk := .str r.1) (e_frz (e_var rfl)) rfl (e_ixT (ds := [.str r.1, .int r.2.1, .tuple (r.2.2.map .str)]) (e_ixL (ds := rs.map rtD) (e_var rfl) (e_var rfl) (at_nat hr)) e_C rfl) rfl ?_ ?_
    · show (if kOk .k (.str r.1) && decide (kvs.length < sizeLine) then some (Cl.dic .k (putD kvs (.str r.1) (nI80 i))) else none) = _
      have : (100 : Nat) < sizeLine := by decide
      rw [putK80 k1 hfr, decide_eq_true (by omega)]
      rfl
    refine w_nil ⟨kvs ++ [(.str r.1, nI80 i)], rfl, ?_, fun e he => ?_⟩
    · rw [List.map_append, k1, List.take_succ, hat, List.map_append]; rfl
    · rw [getApp80 k1 hfr]
      by_cases q : e = r.1
      · rw [if_pos q, q, hix]
      · rw [if_neg q]
        rw [List.take_succ, hat] at he
        rcases List.mem_append.mp he with he | he
        · exact k2 e he
        · exact absurd (List.mem_singleton.mp he) q
  · rintro kvs ⟨k1, k2⟩
    have k2 : ∀ e ∈ nms rs, getD kvs (.str e) = some (.int (ixO (nms rs) e : Nat)) := fun e he => k2 e (by
      rw [List.take_of_length_le (by simp)]
      exact he)
    have hmem : ∀ r ∈ rs, ∀ e ∈ r.2.2, e ∈ nms rs := fun r hr e he => by
      obtain ⟨k, hk⟩ := List.getElem?_of_mem hr
      have := (H.el k r hk).2 e he
      rw [List.map_take] at this
      exact List.mem_of_mem_take this
    have hinner : ∀ r ∈ rs, nComp [12] (gN 12) (iSeq (dIxB (dVar 11) (dC (.int 2)))) PD.tYes (dFrz (dIxB (dVar 4) (dVar 12))) [.dat false (dL ns), .dat true (.list (rs.map rtD)), .dat true (.list (rs.map rtD)), .dat true (.str (txt80 rs)), .own (.dic .k kvs), .un, .un, .un, .un, .un, .un, .dat true (rtD r), .un] = .val (r.2.2.map (fun e => PyData.int (ixO (nms rs) e : Nat)), [.dat false (dL ns), .dat true (.list (rs.map rtD)), .dat true (.list (rs.map rtD)), .dat true (.str (txt80 rs)), .own (.dic .k kvs), .un, .un, .un, .un, .un, .un, .dat true (rtD r), .un]) := fun r hr => by
      have hrl := (H.rows r hr).ln
      exact n_map (enc := PyData.str) r.2.2 (fun e => .int (ixO (nms rs) e : Nat)) (i_seqT (e_ixT (ds := [.str r.1, .int r.2.1, .tuple (r.2.2.map .str)]) (e_var rfl) e_C rfl)) (by omega) rfl fun e he => ⟨_, rfl, rfl, e_frz (e_ixK80 (fr := true) (e_varO rfl) (e_var rfl) rfl (k2 e (hmem r hr e he)))⟩
    have hix : ∀ r : Rt, rdInts (M80 ns rs (.own (.dic .k kvs)) .un .un .un .un .un .un) (.d true (.list (r.2.2.map fun e => PyData.int (ixO (nms rs) e : Nat)))) = some (ixR rs r) := fun r => by
      show intsOf (r.2.2.map fun e => PyData.int (ixO (nms rs) e : Nat)) = _
      rw [show (r.2.2.map fun e => PyData.int (ixO (nms rs) e : Nat)) = (ixR rs r).map PyData.int by rw [List.map_map]; rfl]
      exact intsOf_map _
    have hnet : nComp [11] (gN 11) (iSeq (dVar 1)) PD.tYes (dFrz (dB kTuple (dAc (dOfN (dBN kSorted (dAc (dOfN (nComp [12] (gN 12) (iSeq (dIxB (dVar 11) (dC (.int 2)))) PD.tYes (dFrz (dIxB (dVar 4) (dVar 12))))) dA0))) dA0))) (M80 ns rs (.own (.dic .k kvs)) .un .un .un .un .un .un) = .val (rs.map (fun r => dT (sortI (ixR rs r))), M80 ns rs (.own (.dic .k kvs)) .un .un .un .un .un .un) :=
      n_map (enc := rtD) rs (fun r => dT (sortI (ixR rs r))) (i_seqL (e_var rfl)) (by omega) rfl fun r hr => ⟨_, rfl, rfl, e_frz (e_B (a_cons (e_ofN (n_B (a_cons (e_ofN (hinner r hr)) a_nil) (k_sorted (hix r)))) a_nil) (k_tup rfl))⟩
    apply w_set
    · exact e_B (a_cons (e_ofN hnet) a_nil) (k_tup rfl)
    have hnt : PyData.tuple (rs.map fun r => dT (sortI (ixR rs r))) = dTT (net80 rs) := by
      unfold net80 netR dTT
      rw [List.map_map, List.map_map]; rfl
    rw [hnt]
    refine w_n80 (Γ' := M80 ns rs (.own (.dic .k kvs)) .un (.dat true (dTT (net80 rs))) .un .un .un .un) rfl ?_
    have hpr : nComp [11] (gN 11) (iSeq (dVar 1)) PD.tYes (dFrz (dIxB (dVar 11) (dC (.int 1)))) (M80 ns rs (.own (.dic .k kvs)) .un (.dat true (dTT (net80 rs))) .un .un .un .un) = .val (rs.map (fun r => PyData.int r.2.1), M80 ns rs (.own (.dic .k kvs)) .un (.dat true (dTT (net80 rs))) .un .un .un .un) :=
      n_map (enc := rtD) rs (fun r => .int r.2.1) (i_seqL (e_var rfl)) (by omega) rfl fun r hr => ⟨_, rfl, rfl, e_frz (e_ixT (ds := [.str r.1, .int r.2.1, .tuple (r.2.2.map .str)]) (e_var rfl) e_C rfl)⟩
    apply w_set
    · exact e_ofN hpr
    refine w_n80 (Γ' := M80 ns rs (.own (.dic .k kvs)) .un (.dat true (dTT (net80 rs))) (.dat true (.list (prD80 rs))) .un .un .un) rfl ?_
    have heq : ∀ {Γ : List Sl}, kNe Γ (.d true (.list (rs.map rtD))) (.d true (.list (rs.map rtD))) = .val false := fun {Γ} => by
      have := k_ne (Γ := Γ) (a := .d true (.list (rs.map rtD))) (b := .d true (.list (rs.map rtD))) (z := true) rfl rfl (sh_rows H) (sh_rows H) (PySem.SeqAt.eqv_refl _ (SeqAt.canLay_of_shaped (sh_rows H)))
      exact this
    refine w_forR (fr := true) (N := 2) (S := Unit) (fun _ _ => True) (fun _ => M80 ns rs (.own (.dic .k kvs)) .un (.dat true (dTT (net80 rs))) (.dat true (.list (prD80 rs))) .un .un .un) () (i_range1 e_C (cRng_of (by decide) (by decide) (by omega) (by omega))) rfl trivial ?_ ?_
    · rintro i _ hi _
      refine ⟨_, rfl, ?_⟩
      apply w_setX
      · exact x_call (ds := [.str (txt80 rs)]) (a_cons (e_var rfl) a_nil) rfl hR
      refine w_n80 (Γ' := M80 ns rs (.own (.dic .k kvs)) .un (.dat true (dTT (net80 rs))) (.dat true (.list (prD80 rs))) (.dat true (nI80 i)) (.own (.lst (rs.map rtD))) .un) rfl ?_
      apply w_ifN
      · exact t_or (t_not (t_tst (e_x (x_call (ds := [.list (rs.map rtD), .list (rs.map rtD)]) (a_cons (e_varO rfl) (a_cons (e_var rfl) a_nil)) rfl sR) rfl))) fun _ => t_or (t_not (t_tst (e_x (x_call (ds := [.str (txt80 rs), .str (txt80 rs)]) (a_cons (e_x (x_call (ds := [.list (rs.map rtD)]) (a_cons (e_var rfl) a_nil) rfl hS0) rfl) (a_cons (e_var rfl) a_nil)) rfl sT) rfl))) fun _ => t_tst (e_cmp (e_var rfl) (e_var rfl) heq)
      · rfl
      and_intros
      apply w_setX
      · exact x_call (ds := [.list (rs.map rtD)]) (a_cons (e_var rfl) a_nil) rfl hP0
      refine w_n80 (Γ' := M80 ns rs (.own (.dic .k kvs)) .un (.dat true (dTT (net80 rs))) (.dat true (.list (prD80 rs))) (.dat true (nI80 i)) (.own (.lst (rs.map rtD))) (.own (.lst (prD80 rs)))) rfl ?_
      apply w_ifN
      · exact t_or (t_not (t_tst (e_x (x_call (ds := [dTT (net80 rs), dTT (net80 rs)]) (a_cons (e_x (x_call (ds := [.list (rs.map rtD)]) (a_cons (e_varO rfl) a_nil) rfl hN0) rfl) (a_cons (e_var rfl) a_nil)) rfl sN) rfl))) fun _ => t_not (t_tst (e_x (x_call (ds := [.list (prD80 rs), .list (prD80 rs)]) (a_cons (e_varO rfl) (a_cons (e_var rfl) a_nil)) rfl sP) rfl))
      · rfl
      and_intros
      apply w_expr
      · exact e_clr80 (io := false) (es := rs.map rtD) rfl
      refine w_n80 (Γ' := M80 ns rs (.own (.dic .k kvs)) .un (.dat true (dTT (net80 rs))) (.dat true (.list (prD80 rs))) (.dat true (nI80 i)) (.own (.lst [])) (.own (.lst (prD80 rs)))) rfl ?_
      apply w_expr
      · exact e_app (io := false) (Γ1 := M80 ns rs (.own (.dic .k kvs)) .un (.dat true (dTT (net80 rs))) (.dat true (.list (prD80 rs))) (.dat true (nI80 i)) (.own (.lst [])) (.own (.lst (prD80 rs)))) (es := prD80 rs) (ds := prD80 rs) (d := .int 0) rfl e_C rfl (ltS_of (by rw [List.length_map]; omega))
      exact w_nil ⟨(), rfl, trivial⟩
    · rintro ⟨⟩ _
      have htp : ∀ {Γ : List Sl}, Γ[1]? = some (.dat true (.list (rs.map rtD))) → dB kTuple (dAc (dVar 1) dA0) Γ = .val (.d true (.tuple (rs.map rtD)), Γ) := fun {Γ} hg => e_B (a_cons (e_var hg) a_nil) (k_tup rfl)
      apply w_ifN
      · exact t_or (t_not (t_tst (e_x (x_call (ds := [dTT (net80 rs), dTT (net80 rs)]) (a_cons (e_x (x_call (ds := [.tuple (rs.map rtD)]) (a_cons (htp rfl) a_nil) rfl hN1) rfl) (a_cons (e_var rfl) a_nil)) rfl sN) rfl))) fun _ => t_not (t_tst (e_x (x_call (ds := [.list (prD80 rs), .list (prD80 rs)]) (a_cons (e_xc (x_call (ds := [.tuple (rs.map rtD)]) (a_cons (htp rfl) a_nil) rfl hP1)) (a_cons (e_var rfl) a_nil)) rfl sP) rfl))
      · rfl
      and_intros
      apply w_ret
      · exact e_and (e_x (x_call (ds := [.str (txt80 rs), .str (txt80 rs)]) (a_cons (e_x (x_call (ds := [.list (rs.map rtD)]) (a_cons (e_xc (x_call (ds := [.str (txt80 rs)]) (a_cons (e_var rfl) a_nil) rfl hR)) a_nil) rfl hS0) rfl) (a_cons (e_var rfl) a_nil)) rfl sT) rfl) fun _ => e_x (x_call (ds := [.str (txt80 rs), .str (txt80 rs)]) (a_cons (e_x (x_call (ds := [.tuple (rs.map rtD)]) (a_cons (htp rfl) a_nil) rfl hS1) rfl) (a_cons (e_var rfl) a_nil)) rfl sT) rfl
      exact ⟨_, _, rfl, rfl, rfl⟩
end PDW
end
end
end
end
set_option Elab.async false
set_option linter.all false
set_option maxRecDepth 100000
set_option maxHeartbeats 0
namespace PDW
open PySem PySem.Spec PyProof.Rows L2 PD
theorem envD {K : PySem.W.Frag} {hp : Heap} {mg : Str → Option Value} (X : K.In hp) (G : hp.Ns mainGlobals mg) (c : PD.SaysX fxD faD fnD K) : Env K mg where
  d_p_law := ⟨_, _, (c.d.def_ 0 (d := dd0) rfl).choose_spec, He.glo_ok X G (c.d.fact 0 (f := .glo "law") rfl)⟩
  d_qnamed := ⟨_, _, (c.d.def_ 1 (d := dd1) rfl).choose_spec, He.glo_ok X G (c.d.fact 1 (f := .glo "_law_named") rfl)⟩
  d_qtake := ⟨_, _, (c.d.def_ 2 (d := dd2) rfl).choose_spec, He.glo_ok X G (c.d.fact 2 (f := .glo "_law_take") rfl)⟩
  d_qnames := ⟨_, _, (c.d.def_ 3 (d := dd3) rfl).choose_spec, He.glo_ok X G (c.d.fact 3 (f := .glo "_law_names") rfl)⟩
  d_qword := ⟨_, _, (c.d.def_ 4 (d := dd4) rfl).choose_spec, He.glo_ok X G (c.d.fact 4 (f := .glo "_law_word") rfl)⟩
  d_qprice := ⟨_, _, (c.d.def_ 5 (d := dd5) rfl).choose_spec, He.glo_ok X G (c.d.fact 5 (f := .glo "_law_price") rfl)⟩
  d_qfeed := ⟨_, _, (c.d.def_ 6 (d := dd6) rfl).choose_spec, He.glo_ok X G (c.d.fact 6 (f := .glo "_law_feed") rfl)⟩
  d_qtext := ⟨_, _, (c.d.def_ 7 (d := dd7) rfl).choose_spec, He.glo_ok X G (c.d.fact 7 (f := .glo "_law_text") rfl)⟩
  d_p_read_net := ⟨_, _, (c.d.def_ 8 (d := dd8) rfl).choose_spec, He.glo_ok X G (c.d.fact 8 (f := .glo "read_net") rfl)⟩
  d_p_row_in := ⟨_, _, (c.d.def_ 9 (d := dd9) rfl).choose_spec, He.glo_ok X G (c.d.fact 9 (f := .glo "row_in") rfl)⟩
  d_p_is_name := ⟨_, _, (c.d.def_ 10 (d := dd10) rfl).choose_spec, He.glo_ok X G (c.d.fact 10 (f := .glo "is_name") rfl)⟩
  d_p_price_in := ⟨_, _, (c.d.def_ 11 (d := dd11) rfl).choose_spec, He.glo_ok X G (c.d.fact 11 (f := .glo "price_in") rfl)⟩
  d_qsame := ⟨_, _, (c.d.def_ 12 (d := dd12) rfl).choose_spec, He.glo_ok X G (c.d.fact 12 (f := .glo "_law_same") rfl)⟩
  d_p_show_net := ⟨_, _, (c.d.def_ 13 (d := dd13) rfl).choose_spec, He.glo_ok X G (c.d.fact 13 (f := .glo "show_net") rfl)⟩
  d_p_prices_in := ⟨_, _, (c.d.def_ 14 (d := dd14) rfl).choose_spec, He.glo_ok X G (c.d.fact 14 (f := .glo "prices_in") rfl)⟩
  d_p_net_in := ⟨_, _, (c.d.def_ 15 (d := dd15) rfl).choose_spec, He.glo_ok X G (c.d.fact 15 (f := .glo "net_in") rfl)⟩
  d_p_names_in := ⟨_, _, (c.d.def_ 16 (d := dd16) rfl).choose_spec, He.glo_ok X G (c.d.fact 16 (f := .glo "names_in") rfl)⟩
  d_p_net_of := ⟨_, _, (c.d.def_ 17 (d := dd17) rfl).choose_spec, He.glo_ok X G (c.d.fact 17 (f := .glo "net_of") rfl)⟩
  d_p_are_elders := ⟨_, _, (c.d.def_ 18 (d := dd18) rfl).choose_spec, He.glo_ok X G (c.d.fact 18 (f := .glo "are_elders") rfl)⟩
  b_range := He.free_ok X G (c.d.fact 19 (f := .free "range") rfl)
  b_len := He.free_ok X G (c.d.fact 20 (f := .free "len") rfl)
  b_int := He.free_ok X G (c.d.fact 21 (f := .free "int") rfl)
  b_tuple := He.free_ok X G (c.d.fact 22 (f := .free "tuple") rfl)
  b_list := He.free_ok X G (c.d.fact 23 (f := .free "list") rfl)
  b_str := He.free_ok X G (c.d.fact 24 (f := .free "str") rfl)
  b_sorted := He.free_ok X G (c.d.fact 25 (f := .free "sorted") rfl)
  b_isinstance := He.free_ok X G (c.d.fact 26 (f := .free "isinstance") rfl)
  b_enumerate := He.free_ok X G (c.d.fact 27 (f := .free "enumerate") rfl)
  b_all := He.free_ok X G (c.d.fact 28 (f := .free "all") rfl)
  b_set := He.free_ok X G (c.d.fact 29 (f := .free "set") rfl)
  b_zip := He.free_ok X G (c.d.fact 30 (f := .free "zip") rfl)
  b_bool := He.free_ok X G (c.d.fact 31 (f := .free "bool") rfl)
  g_LETTERS := He.str_ok X G (c.d.fact 32 (f := .str "LETTERS" "abcdefghijklmnopqrstuvwxyz") rfl)
  g_FIGURES := He.str_ok X G (c.d.fact 33 (f := .str "FIGURES" "0123456789") rfl)
  g_MOST_PRICE := He.int_ok X G (c.d.fact 34 (f := .int "MOST_PRICE" 1000000000000000000000000000000) rfl)
  g_MOST_ROWS := He.int_ok X G (c.d.fact 35 (f := .int "MOST_ROWS" 40) rfl)
  g_MOST := He.int_ok X G (c.d.fact 36 (f := .int "MOST" 40) rfl)
  x_all := PD.xall_ok (c.x 0) (PD.all_cons (He.glo_ok X G (c.d.fact 37 (f := .glo "NoNet") rfl)) (PD.all_cons (He.glo_ok X G (c.d.fact 38 (f := .glo "NoText") rfl)) PD.all_nil)) PD.all_nil PD.all_nil
  hunt := ⟨PD.huntB_ok (c.x 1), (He.glo_ok X G (c.d.fact 39 (f := .glo "HuntError") rfl))⟩
  i_NoText := c.d.def_ 19 (d := dd19) rfl
  j_NoText := PD.iniB_ok (c.x 2)
  i_NoNet := c.d.def_ 20 (d := dd20) rfl
  j_NoNet := PD.iniB_ok (c.x 3)
theorem lawD {P : Program} {w : World} {K : PySem.W.Frag} {hp : Heap} {mg : Str → Option Value} {f : Addr} (X : K.In hp) (G : hp.Ns mainGlobals mg) (hf : mg ("law" : Str) = some (.ref f)) (c : PD.SaysX fxD faD fnD K) :
    ∃ fd : FuncData, (∀ (z : Shared) (v : Value), BindsTo z fd ⟨[v], []⟩ [("_law_script", v)]) ∧ ∀ base : Heap, FnOk P w K mg base (L2.CX P w) 66 f fd ["_law_script"] (spU K mg u_p_law) := by
  obtain ⟨fd, F⟩ := c.d.def_ 0 (d := dd0) rfl
  have e := hf.symm.trans (He.glo_ok X G (c.d.fact 0 (f := .glo "law") rfl))
  cases e
  have b := FunD.bindsA (ps := ["_law_script"]) F fun _ _ _ _ _ _ us hl => match us, hl with | [_], _ => rfl
  exact ⟨fd, fun z v => b z [v] rfl, fun base => fo_p_law (envD X G c) F⟩
theorem spD {K : PySem.W.Frag} {mg : Str → Option Value} {H : Hp} {a : Addr} {ns : List Int} (hl : ns.length ≤ 63) (hS : SqL K H a (ns.map V.int)) : spU K mg u_p_law [.ref a] H (fun v _ => v = .bl true) fun _ _ _ => False := spU_law (law_true ns hl) hS
theorem walkD {l : PySem.W.OpenLaw} {n k : Nat} {q : Program} {loose : List Str} {XP : (Str → Option Value) → Heap → Prop} {YP : World → Heap → Prop} {d : DefRec} {x : Str} (hn : l.most = some n) (hn2 : n ≤ sizeLine) (hdf : d.params.defaults = []) (hr : Room k callerA)
    (F : ∀ (w : World) (mg : Str → Option Value) (fa : Addr) (h : Heap), YP w h → h.Ns mainGlobals mg → mg d.name = some (.ref fa) →
      ∃ (K : PySem.W.Frag) (fd : FuncData) (sp : Sp), K.In h ∧ (∀ (z : Shared) (u : Value), BindsTo z fd ⟨[u], []⟩ [(x, u)]) ∧
        (∀ (H : Hp) (a : Addr) (ns : List Int), ns.length ≤ n → Only H → SqL K H a (ns.map V.int) → sp [.ref a] H (fun v _ => v = .bl true) fun _ _ _ => False) ∧
        ∀ base : Heap, K.In base → base.Ns mainGlobals mg → FnOk l.prog w K mg base (L2.CX l.prog w) k fa fd [x] sp) :
    PySem.W.WalkO q loose XP YP l.row.toRowW d [] (fun f vs => PySem.call f vs) := by
  refine Att.attach_call hn hdf fun w s0 s1 mg mb fa o pm cd doc a vs ns G Y ho hd hcd hmg hobj hints hlen hg => ?_
  obtain ⟨K, fd, sp, KX, hb, hsp, hF⟩ := F w mg fa _ Y G.T.g hmg
  exact law_call KX G.T.g G.T.b G.T.builtins G.T.nolimit hg hobj hints (Nat.le_trans hlen hn2) hr hF hb (fun H hO hS => hsp H a ns hlen hO hS) fun H e s' ⟨_, _, _, _, _, _, _, _, _, _, _, _, z⟩ => z
end PDW
open PySem PySem.W PySem.Calls PyProof.Rows
theorem PySem.Challenge.cw_badbegins_k80_named_nets_written_holds : PySem.Challenge.rw_badbegins_k80_named_nets_written.Holds := by
  w_on; o_law
  refine HandSHeadRun.head_any (r := OpenLaw.row PySem.Challenge.rw_badbegins_k80_named_nets_written) (q := view (OpenLaw.row PySem.Challenge.rw_badbegins_k80_named_nets_written).prog [30]) (H := PDW.hkD) (ob := PDW.obD) (M := 4000) (loose := PDW.looseD) (d := HandSHeadRun.topDef (OpenLaw.row PySem.Challenge.rw_badbegins_k80_named_nets_written).prog 30) (kwd := []) PDW.obD_eq
    (by kernel_rfl) (fun z => by kernel_rfl) PDW.runD (by kernel_rfl) (by kernel_rfl) (by kernel_rfl) (by rfl) (by first | assumption | decide +kernel) (by decide +kernel) ⟨rfl, rfl, rfl, rfl, rfl, by decide +kernel⟩ ?hw ?hc
  case hw => w_witness2
  case hc =>
    refine PDW.walkD (l := PySem.Challenge.rw_badbegins_k80_named_nets_written) (n := 63) (k := 66) (x := "_law_script") rfl (by decide) (by kernel_rfl) ⟨rfl, by decide, by decide⟩ ?F
    intro w mg fa hp Y G hmg0
    obtain ⟨K, KX, c⟩ := Y
    have hmg : mg ("law" : PySem.Str) = some (.ref fa) := by
      have e : (HandSHeadRun.topDef (OpenLaw.row PySem.Challenge.rw_badbegins_k80_named_nets_written).prog 30).name = ("law" : PySem.Str) := by kernel_rfl
      rw [← e]
      exact hmg0
    obtain ⟨fd, hb, hF⟩ := PDW.lawD (P := PySem.Challenge.rw_badbegins_k80_named_nets_written.prog) (w := w) KX G hmg c
    exact ⟨K, fd, _, KX, hb, fun H a ns hl _ hS => PDW.spD hl hS, fun base _ _ => hF base⟩
