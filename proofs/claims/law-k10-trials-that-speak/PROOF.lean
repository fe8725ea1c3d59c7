import PyProof.Rows.All
import Wide.All
import OpenK.AllK
import Wide.FinOn
import HandS.ForMost
import HandS.ForExc
import HandS.CallSlots
import HandS.Defaults
import HandS.Dict
import HandS.HeadHook2
import HandS.IsInst
import HandS.SortInts
import HandS.Wide
import HandS.WideBits
import HandS.More
import HandS.TupAny
import HandS.Deep
import HandS.Zip
import HandS.Iter
import HandS.Lambda
import KE.GoesEnum
import HandS.SetFor
import HandS.Strs
import HandS.Comp
import HandS.Style
import HandS.Text
import HandS.TupSets
import HandS.Conv
import HandS.Zip0
import HandS.TupLe
import HandS.ExcInit
import HandS.ExcOwn
import HandS.ExcValue
import HandS.ExcField
import KE.KExcIs
import KE.KIsAll
import HandS.HotCalls
import KE.OsArith
import HandS.Base
import HandS.Call
import HandS.Ends
import HandS.Words
import HandS.WordsExc
import HandS.Head0
import HandS.Head1
import HandS.Head2
import HandS.HeadEnd
import HandS.HeadHook1
import KE.KStateDown
import Lean
import PySem.Challenge.RW_badbegins_k10_trials_that_speak
set_option Elab.async false
set_option linter.all false
set_option maxRecDepth 100000
set_option maxHeartbeats 4000000
namespace PD
open PySem L2

/-! ## data in the heap; the lists lie in a region -/
abbrev Rg := Addr → HO → Prop
def LsR (K : PySem.W.Frag) (G : Rg) (a : Addr) (xs : List V) : Prop :=
  G a (.lst xs) ∨ (∃ o, G a (.frz o (.lst xs))) ∨ SqL K (fun _ => none) a xs
/-- a key as data -/
def keyD : Key → PyData
  | .inl i => .int i
  | .inr x => .str x
/-- the kinds of dicts: keys ints and texts; tuples of these -/
inductive Dk where
  | k
  | t
/-- a dict's object, by its keys and values -/
def DcO : Dk → HO → List PyData → List V → Prop
  | .k, o, ks, vs => ∃ kvs : List (Key × V), o = .dK kvs ∧ ks = kvs.map (fun z => keyD z.1) ∧ vs = kvs.map (·.2)
  | .t, o, ks, vs => ∃ kvs : List (List Key × V), o = .dT kvs ∧ ks = kvs.map (fun z => .tuple (z.1.map keyD)) ∧ vs = kvs.map (·.2)
/-- an exception of the class that the module's name nm stands for, at a; its own dict at d -/
def XvO (K : PySem.W.Frag) (nm : Str) (d : Option Addr) (a : Addr) : HO :=
  .ext fun h => ∃ (oe : Obj) (vs : Array Value), h.get? a = some oe ∧ Zc (.ref (He.ga K nm)) d oe ∧ oe.data = .fields vs
/-- an exception as data (no dict of the program has the key None) -/
abbrev xcD (nm : Str) (flds : List (Str × PyData)) : PyData := .dict ((.none, .str nm) :: flds.map fun z => (PyData.str z.1, z.2))
mutual
inductive Dn (K : PySem.W.Frag) (G : Rg) (H : Hp) : V → PyData → Prop
  | non : Dn K G H .non .none
  | bl (b : Bool) : Dn K G H (.bl b) (.bool b)
  | int (i : Int) : Dn K G H (.int i) (.int i)
  | str (x : Str) : Dn K G H (.str x) (.str x)
  | lst {a : Addr} {xs : List V} {ds : List PyData} : LsR K G a xs → DnA K G H xs ds → Dn K G H (.ref a) (.list ds)
  | tup {a : Addr} {xs : List V} {ds : List PyData} : H a = some (.tup xs) → DnA K G H xs ds → Dn K G H (.ref a) (.tuple ds)
  | dct {a : Addr} {o : HO} {t : Dk} {vs : List V} {kvs : List (PyData × PyData)} : (∃ ob, G a (.frz ob o)) → DcO t o (kvs.map (·.1)) vs → DnA K G H vs (kvs.map (·.2)) → Dn K G H (.ref a) (.dict kvs)
  | exc {a dd : Addr} {nm : Str} {fs : List (Str × V)} {flds : List (Str × PyData)} : G a (XvO K nm (some dd) a) → G dd (.xd fs) → fs.map (·.1) = flds.map (·.1) → DnA K G H (fs.map (·.2)) (flds.map (·.2)) → Dn K G H (.ref a) (xcD nm flds)
  | exc0 {a : Addr} {nm : Str} : G a (XvO K nm none a) → Dn K G H (.ref a) (xcD nm [])
inductive DnA (K : PySem.W.Frag) (G : Rg) (H : Hp) : List V → List PyData → Prop
  | nil : DnA K G H [] []
  | cons {v : V} {vs : List V} {d : PyData} {ds : List PyData} : Dn K G H v d → DnA K G H vs ds → DnA K G H (v :: vs) (d :: ds)
end
def TupLe (H H' : Hp) : Prop := ∀ a xs, H a = some (.tup xs) → H' a = some (.tup xs)
theorem TupLe.rf (H : Hp) : TupLe H H := fun _ _ h => h
theorem TupLe.tr {H H1 H2 : Hp} (a : TupLe H H1) (b : TupLe H1 H2) : TupLe H H2 := fun c xs h => b c xs (a c xs h)
def RgLe (G G' : Rg) : Prop := ∀ a o, G a o → G' a o
theorem LsR.mono {K : PySem.W.Frag} {G G' : Rg} {a : Addr} {xs : List V} (h : LsR K G a xs) (g : RgLe G G') : LsR K G' a xs := by
  rcases h with h | ⟨o, h⟩ | h
  · exact .inl (g _ _ h)
  · exact .inr (.inl ⟨o, g _ _ h⟩)
  · exact .inr (.inr h)
mutual
theorem Dn.mono {K : PySem.W.Frag} {G G' : Rg} {H H' : Hp} (g : RgLe G G') (t : TupLe H H') : ∀ {v : V} {d : PyData}, Dn K G H v d → Dn K G' H' v d
  | _, _, .non => .non
  | _, _, .bl b => .bl b
  | _, _, .int i => .int i
  | _, _, .str x => .str x
  | _, _, .lst h a => .lst (h.mono g) (DnA.mono g t a)
  | _, _, .tup h a => .tup (t _ _ h) (DnA.mono g t a)
  | _, _, .dct h c a => .dct (h.imp fun _ z => g _ _ z) c (DnA.mono g t a)
  | _, _, .exc h1 h2 e a => .exc (g _ _ h1) (g _ _ h2) e (DnA.mono g t a)
  | _, _, .exc0 h => .exc0 (g _ _ h)
theorem DnA.mono {K : PySem.W.Frag} {G G' : Rg} {H H' : Hp} (g : RgLe G G') (t : TupLe H H') : ∀ {vs : List V} {ds : List PyData}, DnA K G H vs ds → DnA K G' H' vs ds
  | _, _, .nil => .nil
  | _, _, .cons h a => .cons (Dn.mono g t h) (DnA.mono g t a)
end
/-- no list within -/
def flat : PyData → Bool
  | .none => true
  | .bool _ => true
  | .int _ => true
  | .str _ => true
  | .tuple xs => flatA xs
  | _ => false
where flatA : List PyData → Bool
  | [] => true
  | d :: ds => flat d && flatA ds
mutual
theorem Dn.free {K : PySem.W.Frag} {G G' : Rg} {H : Hp} : ∀ {v : V} {d : PyData}, Dn K G H v d → flat d = true → Dn K G' H v d
  | _, _, .non, _ => .non
  | _, _, .bl b, _ => .bl b
  | _, _, .int i, _ => .int i
  | _, _, .str x, _ => .str x
  | _, _, .lst _ _, h => by simp [flat] at h
  | _, _, .tup h a, f => .tup h (DnA.free a (by simpa [flat] using f))
  | _, _, .dct _ _ _, h => by simp [flat] at h
  | _, _, .exc _ _ _ _, h => by simp [flat] at h
  | _, _, .exc0 _, h => by simp [flat] at h
theorem DnA.free {K : PySem.W.Frag} {G G' : Rg} {H : Hp} : ∀ {vs : List V} {ds : List PyData}, DnA K G H vs ds → flat.flatA ds = true → DnA K G' H vs ds
  | _, _, .nil, _ => .nil
  | _, _, .cons h a, f => by
    simp only [flat.flatA, Bool.and_eq_true] at f
    exact .cons (Dn.free h f.1) (DnA.free a f.2)
end
theorem DnA.length {K : PySem.W.Frag} {G : Rg} {H : Hp} : ∀ {vs : List V} {ds : List PyData}, DnA K G H vs ds → vs.length = ds.length
  | _, _, .nil => rfl
  | _, _, .cons _ a => by simp [a.length]
theorem DnA.get {K : PySem.W.Frag} {G : Rg} {H : Hp} : ∀ {vs : List V} {ds : List PyData} {i : Nat} {v : V}, DnA K G H vs ds → vs[i]? = some v → ∃ d, ds[i]? = some d ∧ Dn K G H v d
  | _, _, _, _, .nil, e => by simp at e
  | _, _, 0, _, .cons h _, e => by simp at e; subst e; exact ⟨_, rfl, h⟩
  | _, _, i + 1, v, .cons _ a, e => by
    obtain ⟨d, h1, h2⟩ := DnA.get (i := i) (v := v) a (by simpa using e)
    exact ⟨d, by simpa using h1, h2⟩
theorem DnA.get' {K : PySem.W.Frag} {G : Rg} {H : Hp} : ∀ {vs : List V} {ds : List PyData} {i : Nat} {d : PyData}, DnA K G H vs ds → ds[i]? = some d → ∃ v, vs[i]? = some v ∧ Dn K G H v d
  | _, _, _, _, .nil, e => by simp at e
  | _, _, 0, _, .cons h _, e => by simp at e; subst e; exact ⟨_, rfl, h⟩
  | _, _, i + 1, v, .cons _ a, e => by
    obtain ⟨d, h1, h2⟩ := DnA.get' (i := i) (d := v) a (by simpa using e)
    exact ⟨d, by simpa using h1, h2⟩
theorem DnA.append {K : PySem.W.Frag} {G : Rg} {H : Hp} : ∀ {vs ws : List V} {ds es : List PyData}, DnA K G H vs ds → DnA K G H ws es → DnA K G H (vs ++ ws) (ds ++ es)
  | _, _, _, _, .nil, b => b
  | _, _, _, _, .cons h a, b => .cons h (DnA.append a b)
theorem DnA.drop {K : PySem.W.Frag} {G : Rg} {H : Hp} : ∀ {vs : List V} {ds : List PyData} (n : Nat), DnA K G H vs ds → DnA K G H (vs.drop n) (ds.drop n)
  | _, _, 0, a => a
  | _, _, _ + 1, .nil => .nil
  | _, _, n + 1, .cons _ a => DnA.drop n a
theorem DnA.take {K : PySem.W.Frag} {G : Rg} {H : Hp} : ∀ {vs : List V} {ds : List PyData} (n : Nat), DnA K G H vs ds → DnA K G H (vs.take n) (ds.take n)
  | _, _, 0, _ => .nil
  | _, _, _ + 1, .nil => .nil
  | _, _, n + 1, .cons h a => .cons h (DnA.take n a)
theorem DnA.set {K : PySem.W.Frag} {G : Rg} {H : Hp} {v : V} {d : PyData} (h : Dn K G H v d) : ∀ {vs : List V} {ds : List PyData} (i : Nat), DnA K G H vs ds → DnA K G H (vs.set i v) (ds.set i d)
  | _, _, _, .nil => .nil
  | _, _, 0, .cons _ a => .cons h a
  | _, _, i + 1, .cons q a => .cons q (DnA.set h i a)
theorem DnA.reverse {K : PySem.W.Frag} {G : Rg} {H : Hp} : ∀ {vs : List V} {ds : List PyData}, DnA K G H vs ds → DnA K G H vs.reverse ds.reverse
  | _, _, .nil => .nil
  | _, _, .cons h a => by
    rw [List.reverse_cons, List.reverse_cons]
    exact DnA.append (DnA.reverse a) (.cons h .nil)
theorem dn_int {K : PySem.W.Frag} {G : Rg} {H : Hp} {v : V} {i : Int} (h : Dn K G H v (.int i)) : v = .int i := by cases h; rfl
theorem dn_bool {K : PySem.W.Frag} {G : Rg} {H : Hp} {v : V} {b : Bool} (h : Dn K G H v (.bool b)) : v = .bl b := by cases h; rfl
theorem dn_str {K : PySem.W.Frag} {G : Rg} {H : Hp} {v : V} {x : Str} (h : Dn K G H v (.str x)) : v = .str x := by cases h; rfl
theorem dn_none {K : PySem.W.Frag} {G : Rg} {H : Hp} {v : V} (h : Dn K G H v .none) : v = .non := by cases h; rfl
theorem dn_list {K : PySem.W.Frag} {G : Rg} {H : Hp} {v : V} {ds : List PyData} (h : Dn K G H v (.list ds)) : ∃ a xs, v = .ref a ∧ LsR K G a xs ∧ DnA K G H xs ds := by
  cases h with | lst h a => exact ⟨_, _, rfl, h, a⟩
theorem dn_tupleH {K : PySem.W.Frag} {G : Rg} {H : Hp} {v : V} {ds : List PyData} (h : Dn K G H v (.tuple ds)) : ∃ a xs, v = .ref a ∧ H a = some (.tup xs) ∧ DnA K G H xs ds := by
  cases h with | tup h a => exact ⟨_, _, rfl, h, a⟩
theorem dn_tuple {K : PySem.W.Frag} {G : Rg} {H : Hp} {v : V} {ds : List PyData} (h : Dn K G H v (.tuple ds)) : ∃ a xs, v = .ref a ∧ SqT K H a xs ∧ DnA K G H xs ds := by
  cases h with | tup h a => exact ⟨_, _, rfl, SqT.of h, a⟩
theorem dna_ints {K : PySem.W.Frag} {G : Rg} {H : Hp} : ∀ {ns : List Int} {vs : List V}, DnA K G H vs (ns.map PyData.int) → vs = ns.map V.int
  | [], _, .nil => rfl
  | n :: ns, _, .cons h a => by rw [dn_int h, dna_ints a]; rfl
theorem dna_strs {K : PySem.W.Frag} {G : Rg} {H : Hp} : ∀ {ns : List Str} {vs : List V}, DnA K G H vs (ns.map PyData.str) → vs = ns.map V.str
  | [], _, .nil => rfl
  | n :: ns, _, .cons h a => by rw [dn_str h, dna_strs a]; rfl
theorem dna_bools {K : PySem.W.Frag} {G : Rg} {H : Hp} : ∀ {ns : List Bool} {vs : List V}, DnA K G H vs (ns.map PyData.bool) → vs = ns.map V.bl
  | [], _, .nil => rfl
  | n :: ns, _, .cons h a => by rw [dn_bool h, dna_bools a]; rfl
theorem ints_dna {K : PySem.W.Frag} {G : Rg} {H : Hp} : ∀ (ns : List Int), DnA K G H (ns.map V.int) (ns.map PyData.int)
  | [] => .nil
  | n :: ns => .cons (.int n) (ints_dna ns)
theorem strs_dna {K : PySem.W.Frag} {G : Rg} {H : Hp} : ∀ (ns : List Str), DnA K G H (ns.map V.str) (ns.map PyData.str)
  | [] => .nil
  | n :: ns => .cons (.str n) (strs_dna ns)
/-- the region that is all of the heap -/
abbrev RgH (H : Hp) : Rg := fun a o => H a = some o
theorem LsR.sq {K : PySem.W.Frag} {H : Hp} {a : Addr} {xs : List V} (h : LsR K (RgH H) a xs) : SqL K H a xs := by
  rcases h with h | ⟨o, h⟩ | h
  · exact .inl (.inl h)
  · exact .inl (.inr ⟨o, h⟩)
  · rcases h with (h | ⟨o, h⟩) | h
    · cases h
    · cases h
    · exact .inr h
theorem LsR.of_sq {K : PySem.W.Frag} {H : Hp} {a : Addr} {xs : List V} (h : SqL K H a xs) : LsR K (RgH H) a xs := by
  rcases h with (h | ⟨o, h⟩) | h
  · exact .inl h
  · exact .inr (.inl ⟨o, h⟩)
  · exact .inr (.inr (.inr h))
mutual
theorem Dn.dp {K : PySem.W.Frag} {H : Hp} : ∀ {v : V} {d : PyData}, Dn K (RgH H) H v d → d.canLay0 = true → Dp K H v d
  | _, _, .non, _ => .non
  | _, _, .bl b, _ => .bl b
  | _, _, .int i, _ => .int i
  | _, _, .str x, _ => .str x
  | _, _, .lst h a, c => .lst h.sq (DnA.dp a (by rw [PyData.canLay0] at c; exact c))
  | _, _, .tup h a, c => .tup (SqT.of h) (DnA.dp a (by rw [PyData.canLay0] at c; exact c))
  | _, _, .dct _ _ _, c => by rw [PyData.canLay0] at c; cases c
  | _, _, .exc _ _ _ _, c => by rw [PyData.canLay0] at c; cases c
  | _, _, .exc0 _, c => by rw [PyData.canLay0] at c; cases c
theorem DnA.dp {K : PySem.W.Frag} {H : Hp} : ∀ {vs : List V} {ds : List PyData}, DnA K (RgH H) H vs ds → PyData.canLayAll0 ds = true → DpAll K H vs ds
  | _, _, .nil, _ => .nil
  | _, _, .cons h a, c => by
    rw [PyData.canLayAll0, Bool.and_eq_true] at c
    exact .cons (Dn.dp h c.1) (DnA.dp a c.2)
end
theorem Dn.dps {K : PySem.W.Frag} {H : Hp} {v : V} {d : PyData} (h : Dn K (RgH H) H v d) (c : SeqAt.shaped d = true) : Dp K H v d := h.dp (SeqAt.canLay_of_shaped c)

/-! ## ghosts, cells, slots, states -/
/-- H0: the heap at the entry; P: the addresses of it that may change (cells handed in); I: the cells' values by slot; N: what is new and frozen; E: what lies beside -/
structure Gh where
  H0 : Hp
  P : List Addr
  I : Nat → Option V
  N : Hp
  E : Hp
abbrev RgN (G : Gh) : Rg := fun a o => G.N a = some o
def RgA (G : Gh) : Rg := fun a o => G.N a = some o ∨ (G.H0 a = some o ∧ a ∉ G.P)
def rg (G : Gh) : Bool → Rg
  | true => RgN G
  | false => RgA G
structure Wf (G : Gh) (H : Hp) : Prop where
  keep : ∀ a o, G.H0 a = some o → a ∉ G.P → H a = some o
  new : ∀ a o, G.N a = some o → H a = some o ∧ True
  pal : ∀ a, a ∈ G.P → H a ≠ none
  p0 : ∀ a, a ∈ G.P → G.H0 a ≠ none
  ex : ∀ a o, G.E a = some o → H a = some o ∧ G.N a = none ∧ G.H0 a = none ∧ a ∉ G.P
theorem Wf.rgl {G : Gh} {H : Hp} (w : Wf G H) (fr : Bool) : RgLe (rg G fr) (RgH H) := fun a o h => by
  cases fr with
  | true => exact (w.new a o h).1
  | false =>
    rcases h with h | ⟨h1, h2⟩
    · exact (w.new a o h).1
    · exact w.keep a o h1 h2
theorem Wf.dn {K : PySem.W.Frag} {G : Gh} {H : Hp} {fr : Bool} {v : V} {d : PyData} (w : Wf G H) (h : Dn K (rg G fr) H v d) : Dn K (RgH H) H v d := h.mono (w.rgl fr) (TupLe.rf _)
theorem rg_le (G : Gh) (fr : Bool) : RgLe (rg G true) (rg G fr) := fun a o h => by
  cases fr with
  | true => exact h
  | false => exact .inl h
theorem rg_ff (G : Gh) (fr : Bool) : RgLe (rg G fr) (rg G false) := fun a o h => by
  cases fr with
  | true => exact .inl h
  | false => exact h
structure Ext (G : Gh) (H : Hp) (G' : Gh) (H' : Hp) : Prop where
  h0 : G'.H0 = G.H0
  p : G'.P = G.P
  i : G'.I = G.I
  e : G'.E = G.E
  n : ∀ a o, G.N a = some o → G'.N a = some o
  nn : ∀ a o, G'.N a = some o → G.N a = some o ∨ G.H0 a = none
  t : TupLe H H'
  w : Wf G' H'
theorem Ext.rf {G : Gh} {H : Hp} (w : Wf G H) : Ext G H G H := ⟨rfl, rfl, rfl, rfl, fun _ _ h => h, fun _ _ h => .inl h, TupLe.rf _, w⟩
theorem Ext.tr {G G1 G2 : Gh} {H H1 H2 : Hp} (a : Ext G H G1 H1) (b : Ext G1 H1 G2 H2) : Ext G H G2 H2 :=
  ⟨b.h0.trans a.h0, b.p.trans a.p, b.i.trans a.i, b.e.trans a.e, fun c o h => b.n c o (a.n c o h), fun c o h => (b.nn c o h).elim (a.nn c o) (fun z => .inr (by rw [← a.h0]; exact z)), a.t.tr b.t, b.w⟩
theorem Ext.rgl {G G' : Gh} {H H' : Hp} (e : Ext G H G' H') (fr : Bool) : RgLe (rg G fr) (rg G' fr) := fun a o h => by
  cases fr with
  | true => exact e.n a o h
  | false =>
    rcases h with h | ⟨h1, h2⟩
    · exact .inl (e.n a o h)
    · exact .inr ⟨by rw [e.h0]; exact h1, by rw [e.p]; exact h2⟩
theorem Ext.dn {K : PySem.W.Frag} {G G' : Gh} {H H' : Hp} {fr : Bool} {v : V} {d : PyData} (e : Ext G H G' H') (h : Dn K (rg G fr) H v d) : Dn K (rg G' fr) H' v d := h.mono (e.rgl fr) e.t
theorem Ext.dna {K : PySem.W.Frag} {G G' : Gh} {H H' : Hp} {fr : Bool} {v : List V} {d : List PyData} (e : Ext G H G' H') (h : DnA K (rg G fr) H v d) : DnA K (rg G' fr) H' v d := h.mono (e.rgl fr) e.t

/-- the same, whatever lies beside -/
structure Le (G : Gh) (H : Hp) (G' : Gh) (H' : Hp) : Prop where
  h0 : G'.H0 = G.H0
  p : G'.P = G.P
  n : ∀ a o, G.N a = some o → G'.N a = some o
  nn : ∀ a o, G'.N a = some o → G.N a = some o ∨ G.H0 a = none
  t : TupLe H H'
  w : Wf G' H'
theorem Ext.le {G G' : Gh} {H H' : Hp} (e : Ext G H G' H') : Le G H G' H' := ⟨e.h0, e.p, e.n, e.nn, e.t, e.w⟩
theorem Le.tr {G G1 G2 : Gh} {H H1 H2 : Hp} (a : Le G H G1 H1) (b : Le G1 H1 G2 H2) : Le G H G2 H2 := ⟨b.h0.trans a.h0, b.p.trans a.p, fun c o h => b.n c o (a.n c o h), fun c o h => (b.nn c o h).elim (a.nn c o) (fun z => .inr (by rw [← a.h0]; exact z)), a.t.tr b.t, b.w⟩
theorem Le.rgl {G G' : Gh} {H H' : Hp} (e : Le G H G' H') (fr : Bool) : RgLe (rg G fr) (rg G' fr) := fun a o h => by
  cases fr with
  | true => exact e.n a o h
  | false =>
    rcases h with h | ⟨h1, h2⟩
    · exact .inl (e.n a o h)
    · exact .inr ⟨by rw [e.h0]; exact h1, by rw [e.p]; exact h2⟩
theorem Le.dna {K : PySem.W.Frag} {G G' : Gh} {H H' : Hp} {fr : Bool} {v : List V} {d : List PyData} (e : Le G H G' H') (h : DnA K (rg G fr) H v d) : DnA K (rg G' fr) H' v d := h.mono (e.rgl fr) e.t
/-- the feed of numbers: a dict with a list in it -/
abbrev Fd := List Int × Int × Int
def fdK (l : Addr) (t s : Int) : List (Key × V) := [(.inr "cells", .ref l), (.inr "turn", .int t), (.inr "seed", .int s)]
inductive Cl where
  | lst (ds : List PyData)
  | dic (t : Dk) (kvs : List (PyData × PyData))
  | feed (f : Fd)
def Cl.ok (K : PySem.W.Frag) (G : Rg) (H : Hp) (v : V) (fp : List Addr) : Cl → Prop
  | .lst ds => ∃ p vs, v = .ref p ∧ fp = [p] ∧ H p = some (.lst vs) ∧ DnA K G H vs ds
  | .dic t kvs => ∃ p o vs, v = .ref p ∧ fp = [p] ∧ H p = some o ∧ DcO t o (kvs.map (·.1)) vs ∧ DnA K G H vs (kvs.map (·.2))
  | .feed f => ∃ d l, v = .ref d ∧ fp = [d, l] ∧ d ≠ l ∧ H d = some (.dK (fdK l f.2.1 f.2.2)) ∧ H l = some (.lst (f.1.map V.int))
theorem Cl.mono {K : PySem.W.Frag} {G G' : Rg} {H H' : Hp} {v : V} {fp : List Addr} {c : Cl} (h : c.ok K G H v fp) (g : RgLe G G') (k : ∀ a ∈ fp, H' a = H a) (t : TupLe H H') : c.ok K G' H' v fp := by
  cases c with
  | lst ds =>
    obtain ⟨p, vs, rfl, rfl, h1, h2⟩ := h
    exact ⟨p, vs, rfl, rfl, by rw [k p (by simp)]; exact h1, h2.mono g t⟩
  | dic t' kvs =>
    obtain ⟨p, o, vs, rfl, rfl, h1, h2, h3⟩ := h
    exact ⟨p, o, vs, rfl, rfl, by rw [k p (by simp)]; exact h1, h2, h3.mono g t⟩
  | feed f =>
    obtain ⟨d, l, h1, h2, h3, h4, h5⟩ := h
    exact ⟨d, l, h1, h2, h3, by rw [k d (by simp [h2])]; exact h4, by rw [k l (by simp [h2])]; exact h5⟩
inductive Sl where
  | un
  | dat (fr : Bool) (d : PyData)
  | own (c : Cl)
  | io (c : Cl)
/-! ## outcomes -/
/-- an exception: its class, its fields, the slots as it finds them (of a def: the cells handed in) -/
structure Exn where
  cls : Str
  flds : List (Str × PyData)
  st : List Sl
inductive R (α : Type) where
  | val (a : α)
  | exc (x : Exn)
  | bad
def R.bind {α β : Type} : R α → (α → R β) → R β
  | .val a, k => k a
  | .exc x, _ => .exc x
  | .bad, _ => .bad

def SlOk (K : PySem.W.Frag) (G : Gh) (H : Hp) (i : Nat) (ov : Option (Option V)) (fp : List Addr) : Sl → Prop
  | .un => fp = []
  | .dat fr d => fp = [] ∧ ∃ v, ov = some (some v) ∧ Dn K (rg G fr) H v d
  | .own c => ∃ v, ov = some (some v) ∧ (∀ p ∈ fp, G.H0 p = none) ∧ c.ok K (RgN G) H v fp
  | .io c => ∃ v, ov = some (some v) ∧ G.I i = some v ∧ c.ok K (RgN G) H v fp
theorem SlOk.mono {K : PySem.W.Frag} {G G' : Gh} {H H' : Hp} {i : Nat} {ov : Option (Option V)} {fp : List Addr} {s : Sl} (h : SlOk K G H i ov fp s) (e : Ext G H G' H') (k : ∀ a ∈ fp, H' a = H a) : SlOk K G' H' i ov fp s := by
  cases s with
  | un => exact h
  | dat fr d =>
    obtain ⟨h1, v, h2, h3⟩ := h
    exact ⟨h1, v, h2, e.dn h3⟩
  | own c =>
    obtain ⟨v, h2, h4, h3⟩ := h
    exact ⟨v, h2, fun p hp => by rw [e.h0]; exact h4 p hp, Cl.mono h3 e.n k e.t⟩
  | io c =>
    obtain ⟨v, h2, h4, h3⟩ := h
    exact ⟨v, h2, by rw [e.i]; exact h4, Cl.mono h3 e.n k e.t⟩
/-- A: the footprints by slot -/
structure StaA (K : PySem.W.Frag) (G : Gh) (H : Hp) (σ : St) (Γ : List Sl) (A : Nat → List Addr) : Prop where
  w : Wf G H
  len : Γ.length = σ.length
  sl : ∀ i s, Γ[i]? = some s → SlOk K G H i σ[i]? (A i) s
  al : ∀ i p, p ∈ A i → H p ≠ none ∧ G.N p = none ∧ (p ∈ G.P ∨ G.H0 p = none)
  ae : ∀ i p, p ∈ A i → G.E p = none
  dj : ∀ i j p, p ∈ A i → p ∈ A j → i = j
def Sta (K : PySem.W.Frag) (G : Gh) (H : Hp) (σ : St) (Γ : List Sl) : Prop := ∃ A, StaA K G H σ Γ A
theorem Sta.w {K : PySem.W.Frag} {G : Gh} {H : Hp} {σ : St} {Γ : List Sl} (s : Sta K G H σ Γ) : Wf G H := s.elim fun _ a => a.w

/-- how the heap may go on: fs are the addresses that change -/
structure Grow (G : Gh) (H : Hp) (N' H' : Hp) (fs : List Addr) : Prop where
  k : ∀ a o, H a = some o → a ∉ fs → H' a = some o
  al : ∀ a, a ∈ fs → H' a ≠ none
  t : TupLe H H'
  n : ∀ a o, G.N a = some o → N' a = some o
  n' : ∀ a o, N' a = some o → H' a = some o ∧ (G.N a = some o ∨ H a = none)
theorem Grow.wf {G : Gh} {H N' H' : Hp} {fs : List Addr} (g : Grow G H N' H' fs) (w : Wf G H) (hf : ∀ p ∈ fs, p ∈ G.P ∨ G.H0 p = none) (he : ∀ p ∈ fs, G.E p = none) : Wf ⟨G.H0, G.P, G.I, N', G.E⟩ H' := by
  have al : ∀ a, H a ≠ none → H' a ≠ none := fun a h => by
    by_cases hp : a ∈ fs
    · exact g.al a hp
    · cases q : H a with
      | none => exact absurd q h
      | some o => rw [g.k a o q hp]; simp
  refine ⟨fun a o h h2 => ?_, fun a o h => ?_, fun a h => al a (w.pal a h), w.p0, fun a o h => ?_⟩
  · refine g.k a o (w.keep a o h h2) fun hp => ?_
    rcases hf a hp with z | z
    · exact h2 z
    · rw [show G.H0 a = some o from h] at z; cases z
  · obtain ⟨h1, h2⟩ := g.n' a o h
    exact ⟨h1, trivial⟩
  · obtain ⟨h1, h2, h3⟩ := w.ex a o h
    refine ⟨g.k a o h1 fun hp => ?_, ?_, h3⟩
    · have h : G.E a = some o := h
      rw [he a hp] at h; cases h
    · show N' a = none
      cases q : N' a with
      | none => rfl
      | some u =>
        rcases (g.n' a u q).2 with z | z
        · rw [h2] at z; cases z
        · rw [h1] at z; cases z
theorem Wf.none0 {G : Gh} {H : Hp} (w : Wf G H) {a : Addr} (h2 : H a = none) : G.H0 a = none := by
  cases q : G.H0 a with
  | none => rfl
  | some u =>
    by_cases hp : a ∈ G.P
    · exact absurd h2 (w.pal a hp)
    · rw [w.keep a u q hp] at h2; cases h2
theorem Grow.ext {G : Gh} {H N' H' : Hp} {fs : List Addr} (g : Grow G H N' H' fs) (w : Wf G H) (hf : ∀ p ∈ fs, p ∈ G.P ∨ G.H0 p = none) (he : ∀ p ∈ fs, G.E p = none) : Ext G H ⟨G.H0, G.P, G.I, N', G.E⟩ H' :=
  ⟨rfl, rfl, rfl, rfl, g.n, fun a o h => (g.n' a o h).2.imp id fun z => w.none0 z, g.t, g.wf w hf he⟩
theorem Grow.at {G : Gh} {H N' H' : Hp} {fs : List Addr} (g : Grow G H N' H' fs) {a : Addr} (h : H a ≠ none) (hp : a ∉ fs) : H' a = H a := by
  cases q : H a with
  | none => exact absurd q h
  | some o => exact g.k a o q hp
/-- nothing of the slots changes -/
theorem Sta.grow {K : PySem.W.Frag} {G : Gh} {H H' N' : Hp} {σ : St} {Γ : List Sl} (s : Sta K G H σ Γ) (g : Grow G H N' H' []) :
    Sta K ⟨G.H0, G.P, G.I, N', G.E⟩ H' σ Γ ∧ Ext G H ⟨G.H0, G.P, G.I, N', G.E⟩ H' := by
  obtain ⟨A, S⟩ := s
  have e := g.ext S.w (fun p hp => absurd hp (by simp)) (fun p hp => absurd hp (by simp))
  refine ⟨⟨A, e.w, S.len, fun i s h => (S.sl i s h).mono e fun a ha => g.at (S.al i a ha).1 (by simp), fun i p hp => ?_, S.ae, S.dj⟩, e⟩
  obtain ⟨h1, h2, h3⟩ := S.al i p hp
  refine ⟨by rw [g.at h1 (by simp)]; exact h1, ?_, h3⟩
  show N' p = none
  cases q : N' p with
  | none => rfl
  | some o =>
    rcases (g.n' p o q).2 with z | z
    · rw [h2] at z; cases z
    · exact absurd z h1
/-- one slot changes: its value, or its cell -/
theorem StaA.step {K : PySem.W.Frag} {G : Gh} {H H' N' : Hp} {σ σ' : St} {Γ : List Sl} {A : Nat → List Addr} {i : Nat} {s' : Sl} {fp' fs : List Addr} (S : StaA K G H σ Γ A) (g : Grow G H N' H' fs)
    (hfs : ∀ p ∈ fs, p ∈ A i) (hσ : ∀ j, j ≠ i → σ'[j]? = σ[j]?) (hl : σ'.length = σ.length) (sl' : i < Γ.length → SlOk K ⟨G.H0, G.P, G.I, N', G.E⟩ H' i σ'[i]? fp' s')
    (f : ∀ p ∈ fp', H' p ≠ none ∧ N' p = none ∧ (p ∈ A i ∨ H p = none)) :
    Sta K ⟨G.H0, G.P, G.I, N', G.E⟩ H' σ' (Γ.set i s') ∧ Ext G H ⟨G.H0, G.P, G.I, N', G.E⟩ H' := by
  have hf : ∀ p ∈ fs, p ∈ G.P ∨ G.H0 p = none := fun p hp => (S.al i p (hfs p hp)).2.2
  have he : ∀ p ∈ fs, G.E p = none := fun p hp => S.ae i p (hfs p hp)
  have e := g.ext S.w hf he
  have nf : ∀ j, j ≠ i → ∀ p, p ∈ A j → p ∉ fs := fun j hj p hp hq => hj (S.dj j i p hp (hfs p hq))
  refine ⟨⟨fun j => if j = i then fp' else A j, e.w, by rw [List.length_set, hl]; exact S.len, fun j s h => ?_, fun j p hp => ?_, fun j p hp => ?_, fun j k p hj hk => ?_⟩, e⟩
  · by_cases hj : j = i
    · subst hj
      have hlt : j < Γ.length := by
        have := (List.getElem?_eq_some_iff.mp h).1
        simpa using this
      rw [List.getElem?_set_self hlt] at h
      cases h
      rw [if_pos rfl]
      exact sl' hlt
    · rw [List.getElem?_set_ne (Ne.symm hj)] at h
      rw [if_neg hj, hσ j hj]
      exact (S.sl j s h).mono e fun a ha => g.at (S.al j a ha).1 (nf j hj a ha)
  · by_cases hj : j = i
    · rw [if_pos hj] at hp
      obtain ⟨h1, h2, h3⟩ := f p hp
      refine ⟨h1, h2, ?_⟩
      rcases h3 with z | z
      · exact (S.al i p z).2.2
      · by_cases q : p ∈ G.P
        · exact .inl q
        · refine .inr ?_
          show G.H0 p = none
          cases r : G.H0 p with
          | none => rfl
          | some u => rw [S.w.keep p u r q] at z; cases z
    · rw [if_neg hj] at hp
      obtain ⟨h1, h2, h3⟩ := S.al j p hp
      refine ⟨by rw [g.at h1 (nf j hj p hp)]; exact h1, ?_, h3⟩
      show N' p = none
      cases q : N' p with
      | none => rfl
      | some o =>
        rcases (g.n' p o q).2 with z | z
        · rw [h2] at z; cases z
        · exact absurd z h1
  · show G.E p = none
    by_cases hj : j = i
    · rw [if_pos hj] at hp
      rcases (f p hp).2.2 with z | z
      · exact S.ae i p z
      · cases q : G.E p with
        | none => rfl
        | some u => rw [(S.w.ex p u q).1] at z; cases z
    · rw [if_neg hj] at hp
      exact S.ae j p hp
  · have key : ∀ j', j' ≠ i → p ∈ A j' → p ∈ fp' → False := fun j' hj' h1 h2 => by
      rcases (f p h2).2.2 with z | z
      · exact hj' (S.dj j' i p h1 z)
      · exact (S.al j' p h1).1 z
    by_cases hj' : j = i
    · by_cases hk' : k = i
      · rw [hj', hk']
      · rw [if_pos hj'] at hj
        rw [if_neg hk'] at hk
        exact (key k hk' hk hj).elim
    · by_cases hk' : k = i
      · rw [if_neg hj'] at hj
        rw [if_pos hk'] at hk
        exact (key j hj' hj hk).elim
      · rw [if_neg hj'] at hj
        rw [if_neg hk'] at hk
        exact S.dj j k p hj hk
theorem grow0 {G : Gh} {H : Hp} (w : Wf G H) : Grow G H G.N H [] := ⟨fun _ _ h _ => h, fun _ h => absurd h (by simp), TupLe.rf _, fun _ _ h => h, fun a o h => ⟨(w.new a o h).1, .inl h⟩⟩
theorem same_upd {H : Hp} {p : Addr} {o : HO} (h : H p = none) : Same H (upd H p o) := fun b x e => by
  rw [upd_ne (ne_of_none e h)]
  exact e
theorem tup_upd {H : Hp} {p : Addr} {o : HO} (h : H p = none) : TupLe H (upd H p o) := fun b x e => same_upd h _ _ e
/-- a new thing that is frozen at once -/
theorem grow_new {G : Gh} {H : Hp} {p : Addr} {o : HO} (w : Wf G H) (h : H p = none) : Grow G H (upd G.N p o) (upd H p o) [] := by
  have hN : G.N p = none := by
    cases q : G.N p with
    | none => rfl
    | some u => rw [(w.new p u q).1] at h; cases h
  refine ⟨fun a u e _ => same_upd h a u e, fun _ h => absurd h (by simp), tup_upd h, fun a u e => same_upd hN a u e, fun a u e => ?_⟩
  by_cases ha : a = p
  · subst ha
    rw [upd_same] at e
    rw [upd_same]
    exact ⟨e, .inr h⟩
  · rw [upd_ne ha] at e
    rw [upd_ne ha]
    exact ⟨(w.new a u e).1, .inl e⟩
/-- a new thing that is not frozen -/
theorem grow_own {G : Gh} {H : Hp} {p : Addr} {o : HO} (w : Wf G H) (h : H p = none) : Grow G H G.N (upd H p o) [] :=
  ⟨fun a u e _ => same_upd h a u e, fun _ h => absurd h (by simp), tup_upd h, fun _ _ e => e, fun a u e => ⟨same_upd h a u (w.new a u e).1, .inl e⟩⟩
/-- a thing changes -/
theorem grow_mut {G : Gh} {H : Hp} {p : Addr} {o u : HO} (w : Wf G H) (h : H p = some u) (hN : G.N p = none) (ht : ∀ xs, u ≠ .tup xs) (hz : ∀ x y, u ≠ .frz x y) : Grow G H G.N (upd H p o) [p] := by
  refine ⟨fun a x e hp => by rw [upd_ne (by simpa using hp)]; exact e, fun a ha => ?_, fun a xs e => ?_, fun _ _ e => e, fun a x e => ⟨?_, .inl e⟩⟩
  · have : a = p := by simpa using ha
    rw [this, upd_same]; simp
  · by_cases q : a = p
    · subst q; rw [h] at e; exact absurd (Option.some.inj e) (ht _)
    · rw [upd_ne q]; exact e
  · rw [upd_ne (fun q => by rw [q, hN] at e; cases e)]
    exact (w.new a x e).1
theorem set_at {α : Type} {l : List α} {i : Nat} {x : α} (h : i < l.length) : (l.set i x)[i]? = some x := List.getElem?_set_self h
/-- a new address is no old one's -/
theorem Wf.fresh {G : Gh} {H : Hp} {p : Addr} (w : Wf G H) (hp : H p = none) : G.N p = none ∧ G.H0 p = none ∧ p ∉ G.P := by
  have h3 : p ∉ G.P := fun z => w.pal p z hp
  refine ⟨?_, ?_, h3⟩
  · cases q : G.N p with
    | none => rfl
    | some u => rw [(w.new p u q).1] at hp; cases hp
  · cases q : G.H0 p with
    | none => rfl
    | some u => rw [w.keep p u q h3] at hp; cases hp
/-- a slot gets data -/
theorem Sta.put {K : PySem.W.Frag} {G : Gh} {H : Hp} {σ : St} {Γ : List Sl} {fr : Bool} {d : PyData} {v : V} (s : Sta K G H σ Γ) (i : Nat) (h : Dn K (rg G fr) H v d) :
    Sta K G H (σ.set i (some v)) (Γ.set i (.dat fr d)) := by
  obtain ⟨A, S⟩ := s
  refine (S.step (i := i) (fp' := []) (s' := .dat fr d) (σ' := σ.set i (some v)) (grow0 S.w) (fun p hp => absurd hp (by simp)) (fun j hj => List.getElem?_set_ne (Ne.symm hj)) (List.length_set ..) (fun hlt => ⟨rfl, v, ?_, h⟩) (fun p hp => absurd hp (by simp))).1
  exact set_at (by rw [← S.len]; exact hlt)
/-- a slot gets a new list of its own -/
theorem Sta.putOwn {K : PySem.W.Frag} {G : Gh} {H : Hp} {σ : St} {Γ : List Sl} {p : Addr} {vs : List V} {ds : List PyData} (s : Sta K G H σ Γ) (i : Nat) (hp : H p = none) (h : DnA K (rg G true) H vs ds) :
    Sta K G (upd H p (.lst vs)) (σ.set i (some (.ref p))) (Γ.set i (.own (.lst ds))) ∧ Ext G H G (upd H p (.lst vs)) := by
  obtain ⟨A, S⟩ := s
  obtain ⟨hN, h0, _⟩ := S.w.fresh hp
  refine S.step (i := i) (fp' := [p]) (grow_own S.w hp) (fun p hp => absurd hp (by simp)) (fun j hj => List.getElem?_set_ne (Ne.symm hj)) (List.length_set ..) (fun hlt => ⟨.ref p, ?_, fun q hq => ?_, p, vs, rfl, rfl, upd_same, h.mono (fun _ _ z => z) (tup_upd hp)⟩) (fun q hq => ?_)
  · exact set_at (by rw [← S.len]; exact hlt)
  · have : q = p := by simpa using hq
    subst this
    exact h0
  · have : q = p := by simpa using hq
    subst this
    exact ⟨by rw [upd_same]; simp, hN, .inr hp⟩
/-- slots forgotten -/
theorem Sta.forget {K : PySem.W.Frag} {G : Gh} {H : Hp} {σ : St} {Γ : List Sl} (s : Sta K G H σ Γ) (i : Nat) : Sta K G H σ (Γ.set i .un) := by
  obtain ⟨A, S⟩ := s
  exact (S.step (i := i) (fp' := []) (s' := .un) (σ' := σ) (grow0 S.w) (fun p hp => absurd hp (by simp)) (fun j hj => rfl) rfl (fun hlt => rfl) (fun p hp => absurd hp (by simp))).1
/-- a list of one's own is frozen -/
theorem Sta.freeze {K : PySem.W.Frag} {G : Gh} {H : Hp} {σ : St} {Γ : List Sl} {ds : List PyData} (s : Sta K G H σ Γ) (i : Nat) (hi : Γ[i]? = some (.own (.lst ds))) :
    ∃ G', Sta K G' H σ (Γ.set i (.dat true (.list ds))) ∧ Ext G H G' H := by
  obtain ⟨A, S⟩ := s
  obtain ⟨v, h1, h0, p, vs, rfl, hfp, hp, hd⟩ := S.sl i _ hi
  have hpA : p ∈ A i := by rw [hfp]; simp
  have hN : G.N p = none := (S.al i p hpA).2.1
  have h00 : G.H0 p = none := h0 p hpA
  have n1 : ∀ a o, G.N a = some o → upd G.N p (.lst vs) a = some o := fun a o e => same_upd hN a o e
  have hE : ∀ a o, G.E a = some o → upd G.N p (.lst vs) a = none := fun a o ha => by
    have z : a ≠ p := fun z => by
      have q := S.ae i p hpA
      rw [z, q] at ha
      cases ha
    rw [upd_ne z]
    exact (S.w.ex a o ha).2.1
  have e : Ext G H ⟨G.H0, G.P, G.I, upd G.N p (.lst vs), G.E⟩ H := by
    refine ⟨rfl, rfl, rfl, rfl, n1, fun a o ha => ?_, TupLe.rf _, S.w.keep, fun a o ha => ?_, S.w.pal, S.w.p0, fun a o ha => ⟨(S.w.ex a o ha).1, hE a o ha, (S.w.ex a o ha).2.2⟩⟩
    · have ha : upd G.N p (.lst vs) a = some o := ha
      by_cases q : a = p
      · subst q; exact .inr h00
      · rw [upd_ne q] at ha; exact .inl ha
    have ha : upd G.N p (.lst vs) a = some o := ha
    by_cases q : a = p
    · subst q
      rw [upd_same] at ha
      cases ha
      exact ⟨hp, trivial⟩
    · rw [upd_ne q] at ha
      exact S.w.new a o ha
  refine ⟨_, ⟨fun j => if j = i then [] else A j, e.w, by rw [List.length_set]; exact S.len, fun j s h => ?_, fun j q hq => ?_, fun j q hq => ?_, fun j k q hj hk => ?_⟩, e⟩
  · by_cases hj : j = i
    · subst hj
      rw [List.getElem?_set_self (List.getElem?_eq_some_iff.mp hi).1] at h
      cases h
      rw [if_pos rfl]
      exact ⟨rfl, .ref p, h1, .lst (.inl upd_same) (hd.mono n1 (TupLe.rf _))⟩
    · rw [List.getElem?_set_ne (Ne.symm hj)] at h
      rw [if_neg hj]
      exact (S.sl j s h).mono e fun a ha => rfl
  · by_cases hj : j = i
    · rw [if_pos hj] at hq; cases hq
    · rw [if_neg hj] at hq
      obtain ⟨h2, h3, h4⟩ := S.al j q hq
      refine ⟨h2, ?_, h4⟩
      show upd G.N p (.lst vs) q = none
      rw [upd_ne (fun z => hj (S.dj j i q hq (by rw [z]; exact hpA)))]
      exact h3
  · by_cases hj : j = i
    · rw [if_pos hj] at hq; cases hq
    · rw [if_neg hj] at hq
      exact S.ae j q hq
  · by_cases hj' : j = i
    · rw [if_pos hj'] at hj; cases hj
    · by_cases hk' : k = i
      · rw [if_pos hk'] at hk; cases hk
      · rw [if_neg hj'] at hj
        rw [if_neg hk'] at hk
        exact S.dj j k q hj hk
/-- a dict of one's own is locked and given away -/
theorem Sta.lockDic {K : PySem.W.Frag} {G : Gh} {H : Hp} {σ : St} {Γ : List Sl} {t : Dk} {kvs : List (PyData × PyData)} (s : Sta K G H σ Γ) (i : Nat) (hi : Γ[i]? = some (.own (.dic t kvs))) :
    ∃ p ob, H p = some ob ∧ Mut (some ob) ∧ ∀ od, ∃ G', Sta K G' (upd H p (.frz od ob)) σ (Γ.set i (.dat true (.dict kvs))) ∧ Ext G H G' (upd H p (.frz od ob)) := by
  obtain ⟨A, S⟩ := s
  obtain ⟨v, h1, h0, p, ob, vs, rfl, hfp, hp, hk, hd⟩ := S.sl i _ hi
  have hpA : p ∈ A i := by rw [hfp]; simp
  have hmu : Mut (some ob) := by
    cases t with
    | k => obtain ⟨ks, rfl, _⟩ := hk; trivial
    | t => obtain ⟨ks, rfl, _⟩ := hk; trivial
  have hnt : ∀ xs, ob ≠ .tup xs := fun xs z => by rw [z] at hmu; exact hmu
  refine ⟨p, ob, hp, hmu, fun od => ?_⟩
  have hN : G.N p = none := (S.al i p hpA).2.1
  have h00 : G.H0 p = none := h0 p hpA
  have n1 : ∀ a o, G.N a = some o → upd G.N p (.frz od ob) a = some o := fun a o e => same_upd hN a o e
  have hE : ∀ a o, G.E a = some o → upd G.N p (.frz od ob) a = none := fun a o ha => by
    have z : a ≠ p := fun z => by
      have q := S.ae i p hpA
      rw [z, q] at ha
      cases ha
    rw [upd_ne z]
    exact (S.w.ex a o ha).2.1
  have ht : TupLe H (upd H p (.frz od ob)) := fun a xs h => by
    rw [upd_ne (fun z => by rw [z, hp] at h; cases h; exact hnt _ rfl)]; exact h
  have hal : ∀ a, H a ≠ none → upd H p (.frz od ob) a ≠ none := fun a h => by
    by_cases q : a = p
    · subst q; rw [upd_same]; exact fun z => nomatch z
    · rw [upd_ne q]; exact h
  have e : Ext G H ⟨G.H0, G.P, G.I, upd G.N p (.frz od ob), G.E⟩ (upd H p (.frz od ob)) := by
    refine ⟨rfl, rfl, rfl, rfl, n1, fun a o ha => ?_, ht, fun a o ha hb => ?_, fun a o ha => ?_, fun a ha => hal a (S.w.pal a ha), S.w.p0, fun a o ha => ⟨by rw [upd_ne (fun z => by rw [z] at ha; rw [S.ae i p hpA] at ha; cases ha)]; exact (S.w.ex a o ha).1, hE a o ha, (S.w.ex a o ha).2.2⟩⟩
    · have ha : upd G.N p (.frz od ob) a = some o := ha
      by_cases q : a = p
      · subst q; exact .inr h00
      · rw [upd_ne q] at ha; exact .inl ha
    · rw [upd_ne (fun z => by rw [z, h00] at ha; cases ha)]; exact S.w.keep a o ha hb
    have ha : upd G.N p (.frz od ob) a = some o := ha
    by_cases q : a = p
    · subst q
      rw [upd_same] at ha
      cases ha
      exact ⟨upd_same, trivial⟩
    · rw [upd_ne q] at ha
      rw [upd_ne q]
      exact S.w.new a o ha
  refine ⟨_, ⟨fun j => if j = i then [] else A j, e.w, by rw [List.length_set]; exact S.len, fun j s h => ?_, fun j q hq => ?_, fun j q hq => ?_, fun j k q hj hk => ?_⟩, e⟩
  · by_cases hj : j = i
    · subst hj
      rw [List.getElem?_set_self (List.getElem?_eq_some_iff.mp hi).1] at h
      cases h
      rw [if_pos rfl]
      exact ⟨rfl, .ref p, h1, .dct ⟨od, upd_same⟩ hk (hd.mono n1 ht)⟩
    · rw [List.getElem?_set_ne (Ne.symm hj)] at h
      rw [if_neg hj]
      exact (S.sl j s h).mono e fun a ha => upd_ne fun z => hj (S.dj j i p (by rw [← z]; exact ha) hpA)
  · by_cases hj : j = i
    · rw [if_pos hj] at hq; cases hq
    · rw [if_neg hj] at hq
      obtain ⟨h2, h3, h4⟩ := S.al j q hq
      refine ⟨hal q h2, ?_, h4⟩
      show upd G.N p (.frz od ob) q = none
      rw [upd_ne (fun z => hj (S.dj j i q hq (by rw [z]; exact hpA)))]
      exact h3
  · by_cases hj : j = i
    · rw [if_pos hj] at hq; cases hq
    · rw [if_neg hj] at hq
      exact S.ae j q hq
  · by_cases hj' : j = i
    · rw [if_pos hj'] at hj; cases hj
    · by_cases hk' : k = i
      · rw [if_pos hk'] at hk; cases hk
      · rw [if_neg hj'] at hj
        rw [if_neg hk'] at hk
        exact S.dj j k q hj hk
/-- a list of one's own changes -/
theorem Sta.change {K : PySem.W.Frag} {G : Gh} {H : Hp} {σ : St} {Γ : List Sl} {ds : List PyData} (s : Sta K G H σ Γ) (i : Nat) (hi : Γ[i]? = some (.own (.lst ds))) :
    ∃ p vs, σ[i]? = some (some (.ref p)) ∧ H p = some (.lst vs) ∧ DnA K (rg G true) H vs ds ∧
      ∀ vs' ds', DnA K (rg G true) H vs' ds' → Sta K G (upd H p (.lst vs')) σ (Γ.set i (.own (.lst ds'))) ∧ Ext G H G (upd H p (.lst vs')) := by
  obtain ⟨A, S⟩ := s
  obtain ⟨v, h1, h0, p, vs, rfl, hfp, hp, hd⟩ := S.sl i _ hi
  have hpA : p ∈ A i := by rw [hfp]; simp
  have hN : G.N p = none := (S.al i p hpA).2.1
  refine ⟨p, vs, h1, hp, hd, fun vs' ds' hd' => ?_⟩
  have g : Grow G H G.N (upd H p (.lst vs')) [p] := grow_mut S.w hp hN (fun xs z => by cases z) (fun x y z => by cases z)
  refine S.step (i := i) (fp' := [p]) (s' := .own (.lst ds')) (σ' := σ) g (fun q hq => ?_) (fun j hj => rfl) rfl (fun hlt => ⟨.ref p, h1, fun q hq => ?_, p, vs', rfl, rfl, upd_same, hd'.mono (fun _ _ z => z) g.t⟩) (fun q hq => ?_)
  · have : q = p := by simpa using hq
    rw [this]; exact hpA
  · have : q = p := by simpa using hq
    rw [this]; exact h0 p hpA
  · have : q = p := by simpa using hq
    rw [this]
    exact ⟨by rw [upd_same]; simp, hN, .inl hpA⟩
/-- the same of a list handed in -/
theorem Sta.changeIo {K : PySem.W.Frag} {G : Gh} {H : Hp} {σ : St} {Γ : List Sl} {ds : List PyData} (s : Sta K G H σ Γ) (i : Nat) (hi : Γ[i]? = some (.io (.lst ds))) :
    ∃ p vs, σ[i]? = some (some (.ref p)) ∧ H p = some (.lst vs) ∧ DnA K (rg G true) H vs ds ∧
      ∀ vs' ds', DnA K (rg G true) H vs' ds' → Sta K G (upd H p (.lst vs')) σ (Γ.set i (.io (.lst ds'))) ∧ Ext G H G (upd H p (.lst vs')) := by
  obtain ⟨A, S⟩ := s
  obtain ⟨v, h1, h0, p, vs, rfl, hfp, hp, hd⟩ := S.sl i _ hi
  have hpA : p ∈ A i := by rw [hfp]; simp
  have hN : G.N p = none := (S.al i p hpA).2.1
  refine ⟨p, vs, h1, hp, hd, fun vs' ds' hd' => ?_⟩
  have g : Grow G H G.N (upd H p (.lst vs')) [p] := grow_mut S.w hp hN (fun xs z => by cases z) (fun x y z => by cases z)
  refine S.step (i := i) (fp' := [p]) (s' := .io (.lst ds')) (σ' := σ) g (fun q hq => ?_) (fun j hj => rfl) rfl (fun hlt => ⟨.ref p, h1, h0, p, vs', rfl, rfl, upd_same, hd'.mono (fun _ _ z => z) g.t⟩) (fun q hq => ?_)
  · have : q = p := by simpa using hq
    rw [this]; exact hpA
  · have : q = p := by simpa using hq
    rw [this]
    exact ⟨by rw [upd_same]; simp, hN, .inl hpA⟩
/-! ## things beside the slots -/
theorem Sta.pin {K : PySem.W.Frag} {G : Gh} {H : Hp} {σ : St} {Γ : List Sl} {D : Addr} {o : HO} (S : Sta K G H σ Γ) (hD : H D = none) : Sta K ⟨G.H0, G.P, G.I, G.N, upd G.E D o⟩ (upd H D o) σ Γ ∧ TupLe H (upd H D o) := by
  obtain ⟨A, S⟩ := S
  obtain ⟨f1, f2, f3⟩ := S.w.fresh hD
  have t := tup_upd (o := o) hD
  have nA : ∀ i, D ∉ A i := fun i h => (S.al i D h).1 hD
  have w : Wf ⟨G.H0, G.P, G.I, G.N, upd G.E D o⟩ (upd H D o) := by
    refine ⟨fun a u h h2 => same_upd hD _ _ (S.w.keep a u h h2), fun a u h => ⟨same_upd hD _ _ (S.w.new a u h).1, (S.w.new a u h).2⟩, fun a h => ?_, S.w.p0, fun a u h => ?_⟩
    · rw [upd_ne (show a ≠ D from fun z => f3 (z ▸ h))]
      exact S.w.pal a h
    · by_cases q : a = D
      · subst q
        have h : upd G.E a o a = some u := h
        rw [upd_same] at h ⊢
        exact ⟨h, f1, f2, f3⟩
      · have h : upd G.E D o a = some u := h
        rw [upd_ne q] at h ⊢
        exact S.w.ex a u h
  refine ⟨⟨A, w, S.len, fun i s h => ?_, fun i p h => ⟨?_, (S.al i p h).2⟩, fun i p h => ?_, S.dj⟩, t⟩
  · have q := S.sl i s h
    cases s with
    | un => exact q
    | dat fr d =>
      obtain ⟨q1, v, q2, q3⟩ := q
      exact ⟨q1, v, q2, q3.mono (fun a o z => by cases fr <;> exact z) t⟩
    | own c =>
      obtain ⟨v, q2, q4, q3⟩ := q
      exact ⟨v, q2, q4, Cl.mono q3 (fun a o z => z) (fun a ha => upd_ne (fun z => nA i (z ▸ ha))) t⟩
    | io c =>
      obtain ⟨v, q2, q4, q3⟩ := q
      exact ⟨v, q2, q4, Cl.mono q3 (fun a o z => z) (fun a ha => upd_ne (fun z => nA i (z ▸ ha))) t⟩
  · rw [upd_ne (show p ≠ D from fun z => nA i (z ▸ h))]
    exact (S.al i p h).1
  · show upd G.E D o p = none
    rw [upd_ne (show p ≠ D from fun z => nA i (z ▸ h))]
    exact S.ae i p h
/-- what lies beside is taken away -/
def del (H : Hp) (D : Addr) : Hp := fun b => if b = D then none else H b
theorem del_ne {H : Hp} {D b : Addr} (h : b ≠ D) : PD.del H D b = H b := by unfold PD.del; rw [if_neg h]
theorem del_same {H : Hp} {D : Addr} : PD.del H D D = none := by unfold PD.del; rw [if_pos rfl]
theorem del_upd {H : Hp} {D : Addr} {o : HO} (h : H D = some o) : upd (PD.del H D) D o = H := by
  funext b
  by_cases q : b = D
  · subst q; rw [upd_same, h]
  · rw [upd_ne q, del_ne q]
theorem Sta.unpin {K : PySem.W.Frag} {G : Gh} {H : Hp} {σ : St} {Γ : List Sl} {D : Addr} {o : HO} {E0 : Hp} (S : Sta K G H σ Γ) (hE : G.E = upd E0 D o) (h0 : E0 D = none) (ho : ∀ xs, o ≠ .tup xs) (hz : ∀ x y, o ≠ .frz x y) : Sta K ⟨G.H0, G.P, G.I, G.N, E0⟩ (PD.del H D) σ Γ ∧ H D = some o ∧ TupLe H (PD.del H D) := by
  obtain ⟨A, S⟩ := S
  have eD : G.E D = some o := by rw [hE, upd_same]
  obtain ⟨g1, g2, g3, g4⟩ := S.w.ex D o eD
  have nA : ∀ i, D ∉ A i := fun i h => by
    have := S.ae i D h
    rw [eD] at this; cases this
  have t : TupLe H (PD.del H D) := fun a xs h => by
    rw [del_ne (fun z => by rw [z, g1] at h; exact ho xs (Option.some.inj h))]
    exact h
  have nD : ∀ a u, G.N a = some u → a ≠ D := fun a u h z => by rw [z, g2] at h; cases h
  have w : Wf ⟨G.H0, G.P, G.I, G.N, E0⟩ (PD.del H D) := by
    refine ⟨fun a u h h2 => ?_, fun a u h => ?_, fun a h => ?_, S.w.p0, fun a u h => ?_⟩
    · rw [del_ne (fun z => by rw [z] at h; rw [show G.H0 D = some u from h] at g3; cases g3)]
      exact S.w.keep a u h h2
    · rw [del_ne (nD a u h)]
      exact S.w.new a u h
    · rw [del_ne (show a ≠ D from fun z => g4 (z ▸ h))]
      exact S.w.pal a h
    · have h : E0 a = some u := h
      have q : a ≠ D := fun z => by rw [z, h0] at h; cases h
      rw [del_ne q]
      exact S.w.ex a u (by rw [hE, upd_ne q]; exact h)
  refine ⟨⟨A, w, S.len, fun i s h => ?_, fun i p h => ⟨?_, (S.al i p h).2⟩, fun i p h => ?_, S.dj⟩, g1, t⟩
  · have q := S.sl i s h
    cases s with
    | un => exact q
    | dat fr d =>
      obtain ⟨q1, v, q2, q3⟩ := q
      exact ⟨q1, v, q2, q3.mono (fun a o z => by cases fr <;> exact z) t⟩
    | own c =>
      obtain ⟨v, q2, q4, q3⟩ := q
      exact ⟨v, q2, q4, Cl.mono q3 (fun a o z => z) (fun a ha => del_ne (fun z => nA i (z ▸ ha))) t⟩
    | io c =>
      obtain ⟨v, q2, q4, q3⟩ := q
      exact ⟨v, q2, q4, Cl.mono q3 (fun a o z => z) (fun a ha => del_ne (fun z => nA i (z ▸ ha))) t⟩
  · rw [del_ne (show p ≠ D from fun z => nA i (z ▸ h))]
    exact (S.al i p h).1
  · show E0 p = none
    have := S.ae i p h
    rw [hE, upd_ne (show p ≠ D from fun z => nA i (z ▸ h))] at this
    exact this
/-- the frame's slots forgotten, the values too -/
theorem Sta.blank {K : PySem.W.Frag} {G : Gh} {H : Hp} {σ : St} {Γ : List Sl} (s : Sta K G H σ Γ) (i : Nat) (o : Option V) : Sta K G H (σ.set i o) (Γ.set i .un) := by
  obtain ⟨A, S⟩ := s
  exact (S.step (i := i) (fp' := []) (s' := .un) (σ' := σ.set i o) (grow0 S.w) (fun p hp => absurd hp (by simp)) (fun j hj => List.getElem?_set_ne (Ne.symm hj)) (List.length_set ..) (fun hlt => rfl) (fun p hp => absurd hp (by simp))).1
/-- slots that are not known may hold anything -/
theorem Sta.swap {K : PySem.W.Frag} {G : Gh} {H : Hp} {σ σ' : St} {Γ : List Sl} (s : Sta K G H σ Γ) (hl : σ'.length = σ.length) (h : ∀ i : Nat, σ'[i]? = σ[i]? ∨ Γ[i]? = some Sl.un) : Sta K G H σ' Γ := by
  obtain ⟨A, S⟩ := s
  refine ⟨A, S.w, by rw [hl]; exact S.len, fun i sl e => ?_, S.al, S.ae, S.dj⟩
  rcases h i with q | q
  · rw [q]; exact S.sl i sl e
  · rw [q] at e
    cases e
    exact S.sl i .un q
end PD


set_option Elab.async false
set_option linter.all false
set_option maxRecDepth 100000
set_option maxHeartbeats 4000000
namespace PD
open PySem L2
/-! ## judgements -/
/-- what an expression's value stands for: data; the cell of a slot -/
inductive AV where
  | d (fr : Bool) (d : PyData)
  | s (i : Nat)
def AVok (K : PySem.W.Frag) (G : Gh) (H : Hp) (σ : St) (v : V) : AV → Prop
  | .d fr d => Dn K (rg G fr) H v d
  | .s i => σ[i]? = some (some v)
theorem AVok.ext {K : PySem.W.Frag} {G G' : Gh} {H H' : Hp} {σ : St} {v : V} {a : AV} (h : AVok K G H σ v a) (e : Ext G H G' H') : AVok K G' H' σ v a := by
  cases a with
  | d fr d => exact e.dn h
  | s i => exact h
def FldsOk (K : PySem.W.Frag) (G : Rg) (H : Hp) (fs : List (Str × V)) (flds : List (Str × PyData)) : Prop := fs.map (·.1) = flds.map (·.1) ∧ DnA K G H (fs.map (·.2)) (flds.map (·.2))
/-- an exception's own dict -/
def XdOk (K : PySem.W.Frag) (G : Rg) (H : Hp) (d : Option Addr) (flds : List (Str × PyData)) : Prop :=
  (∃ a fs, d = some a ∧ G a (.xd fs) ∧ FldsOk K G H fs flds) ∨ (d = none ∧ flds = [])
/-- what is wanted where an exception leaves -/
def XW (X : Cx) (W : WX) (G : Gh) (H : Hp) (_ : St) (x : Exn) : Prop :=
  ∀ G' H' σ' C d, Ext G H G' H' → Sta X.K G' H' σ' x.st → X.mg x.cls = some (.ref C) → XdOk X.K (rg G' true) H' d x.flds → W (.ref C) d σ' H'
theorem XW.ext {X : Cx} {W : WX} {G G' : Gh} {H H' : Hp} {σ : St} {x : Exn} (h : XW X W G H σ x) (e : Ext G H G' H') : XW X W G' H' σ x := fun G2 H2 σ2 C d e2 => h G2 H2 σ2 C d (e.tr e2)
/-- a result's meaning; P: what is to hold of a good one -/
def Pst (X : Cx) (W : WX) (G : Gh) (H : Hp) (σ : St) {τ : Type} (m : R τ) (P : τ → Gh → Hp → Prop) : Prop :=
  match m with
  | .bad => False
  | .exc x => XW X W G H σ x
  | .val r => ∀ G' H', Ext G H G' H' → P r G' H'
theorem Pst.ext {X : Cx} {W : WX} {G G' : Gh} {H H' : Hp} {σ : St} {τ : Type} {m : R τ} {P : τ → Gh → Hp → Prop} (h : Pst X W G H σ m P) (e : Ext G H G' H') : Pst X W G' H' σ m P := by
  cases m with
  | bad => exact h
  | exc x => exact XW.ext (σ := σ) h e
  | val r => exact fun G2 H2 e2 => h G2 H2 (e.tr e2)
theorem Pst.imp {X : Cx} {W : WX} {G : Gh} {H : Hp} {σ : St} {τ : Type} {m : R τ} {P P' : τ → Gh → Hp → Prop} (h : Pst X W G H σ m P) (k : ∀ r G' H', Ext G H G' H' → P r G' H' → P' r G' H') : Pst X W G H σ m P' := by
  cases m with
  | bad => exact h
  | exc x => exact h
  | val r => exact fun G2 H2 e2 => k r G2 H2 e2 (h G2 H2 e2)
theorem Pst.impG {X : Cx} {W : WX} {G : Gh} {H : Hp} {σ : St} {τ : Type} {m : R τ} {P P' : τ → Gh → Hp → Prop} (h : Pst X W G H σ m P) (k : ∀ r G' H', Ext G H G' H' → (∀ G2 H2, Ext G' H' G2 H2 → P r G2 H2) → P' r G' H') : Pst X W G H σ m P' := by
  cases m with
  | bad => exact h
  | exc x => exact h
  | val r => exact fun G2 H2 e2 => k r G2 H2 e2 fun G3 H3 e3 => h G3 H3 (e2.tr e3)
theorem Pst.bind {X : Cx} {W : WX} {G : Gh} {H : Hp} {σ : St} {τ ρ : Type} {m : R τ} {k : τ → R ρ} {P : ρ → Gh → Hp → Prop} (h : Pst X W G H σ (m.bind k) P) : Pst X W G H σ m (fun r G' H' => Pst X W G' H' σ (k r) P) := by
  cases m with
  | bad => exact h
  | exc x => exact h
  | val r => exact fun G2 H2 e2 => Pst.ext h e2
section
variable (X : Cx) (W : WX) (Γ : List Sl)
def rdE {τ : Type} (m : R τ) (av : τ → AV) (Γ' : τ → List Sl) : TE := fun σ H Q => ∃ G, Sta X.K G H σ Γ ∧ Pst X W G H σ m fun r G' H' => ∀ v, Sta X.K G' H' σ (Γ' r) → AVok X.K G' H' σ v (av r) → Q v H'
def rdT {τ : Type} (m : R τ) (b : τ → Bool) (Γ' : τ → List Sl) : TT := fun σ H Q => ∃ G, Sta X.K G H σ Γ ∧ Pst X W G H σ m fun r G' H' => Sta X.K G' H' σ (Γ' r) → Q (b r) H'
/-- a new list, just made -/
def rdF {τ : Type} (m : R τ) (ds : τ → List PyData) (Γ' : τ → List Sl) : TE := fun σ H Q => ∃ G, Sta X.K G H σ Γ ∧ Pst X W G H σ m fun r G' H' => ∀ p vs, Sta X.K G' H' σ (Γ' r) → H' p = none → DnA X.K (rg G' true) H' vs (ds r) → Q (.ref p) (upd H' p (.lst vs))
inductive AVs (K : PySem.W.Frag) (G : Gh) (H : Hp) (σ : St) : List V → List AV → Prop
  | nil : AVs K G H σ [] []
  | cons {v : V} {vs : List V} {a : AV} {as : List AV} : AVok K G H σ v a → AVs K G H σ vs as → AVs K G H σ (v :: vs) (a :: as)
def rdA {τ : Type} (m : R τ) (as : τ → List AV) (Γ' : τ → List Sl) : TA := fun σ H Q => ∃ G, Sta X.K G H σ Γ ∧ Pst X W G H σ m fun r G' H' => ∀ vs, Sta X.K G' H' σ (Γ' r) → AVs X.K G' H' σ vs (as r) → Q vs H'
def Ev (e : Expr) {τ : Type} (m : R τ) (av : τ → AV) (Γ' : τ → List Sl) : Prop := PE X e (rdE X W Γ m av Γ')
def EvT (e : Expr) {τ : Type} (m : R τ) (b : τ → Bool) (Γ' : τ → List Sl) : Prop := PT X e (rdT X W Γ m b Γ')
def EvF (e : Expr) {τ : Type} (m : R τ) (ds : τ → List PyData) (Γ' : τ → List Sl) : Prop := PE X e (rdF X W Γ m ds Γ')
def EvA (es : List Expr) {τ : Type} (m : R τ) (as : τ → List AV) (Γ' : τ → List Sl) : Prop := PA X es (rdA X W Γ m as Γ')
abbrev EvP (e : Expr) (a : AV) : Prop := Ev X W Γ e (R.val ()) (fun _ => a) (fun _ => Γ)
abbrev EvTP (e : Expr) (b : Bool) : Prop := EvT X W Γ e (R.val ()) (fun _ => b) (fun _ => Γ)
end
theorem AVs.ext {K : PySem.W.Frag} {G G' : Gh} {H H' : Hp} {σ : St} (e : Ext G H G' H') : ∀ {vs : List V} {as : List AV}, AVs K G H σ vs as → AVs K G' H' σ vs as
  | _, _, .nil => .nil
  | _, _, .cons h a => .cons (h.ext e) (AVs.ext e a)
theorem pe_imp {X : Cx} {e : Expr} {t t' : TE} (h : PE X e t) (k : ∀ σ H Q, t' σ H Q → t σ H Q) : PE X e t' := ⟨fun pins s σ H Q I z => h.run pins s σ H Q I (k σ H Q z)⟩
theorem pt_imp {X : Cx} {e : Expr} {t t' : TT} (h : PT X e t) (k : ∀ σ H Q, t' σ H Q → t σ H Q) : PT X e t' := ⟨fun pins s σ H Q I z => h.run pins s σ H Q I (k σ H Q z)⟩
theorem pw_imp {X : Cx} {e : Expr} {t t' : TT} (h : PW X e t) (k : ∀ σ H Q, t' σ H Q → t σ H Q) : PW X e t' := ⟨fun w pins s σ H Q I z => h.run w pins s σ H Q I (k σ H Q z)⟩
theorem pa_imp {X : Cx} {es : List Expr} {t t' : TA} (h : PA X es t) (k : ∀ σ H Q, t' σ H Q → t σ H Q) : PA X es t' := ⟨fun pos pins s σ H Q I z => h.run pos pins s σ H Q I (k σ H Q z)⟩
theorem pe_any {X : Cx} {e : Expr} {α : Type} {t : α → TE} (h : ∀ x, PE X e (t x)) : PE X e (fun σ H Q => ∃ x, t x σ H Q) := ⟨fun pins s σ H Q I ⟨x, z⟩ => (h x).run pins s σ H Q I z⟩
theorem pt_any {X : Cx} {e : Expr} {α : Type} {t : α → TT} (h : ∀ x, PT X e (t x)) : PT X e (fun σ H Q => ∃ x, t x σ H Q) := ⟨fun pins s σ H Q I ⟨x, z⟩ => (h x).run pins s σ H Q I z⟩
theorem pw_any {X : Cx} {e : Expr} {α : Type} {t : α → TT} (h : ∀ x, PW X e (t x)) : PW X e (fun σ H Q => ∃ x, t x σ H Q) := ⟨fun w pins s σ H Q I ⟨x, z⟩ => (h x).run w pins s σ H Q I z⟩
theorem pa_any {X : Cx} {es : List Expr} {α : Type} {t : α → TA} (h : ∀ x, PA X es (t x)) : PA X es (fun σ H Q => ∃ x, t x σ H Q) := ⟨fun pos pins s σ H Q I ⟨x, z⟩ => (h x).run pos pins s σ H Q I z⟩

/-- the context of a def's body or a block of it -/
def visB (sc : Scope) (x : Str) : Bool := match sc.names.lookup x with
  | some .local => true
  | some .cell => true
  | some .free => true
  | _ => false
def glB (sc : Scope) (x : Str) : Bool := match sc.names.lookup x with
  | some .globalImplicit => true
  | _ => false
def locB (sc : Scope) (x : Str) : Bool := match sc.names.lookup x with
  | some .local => true
  | some .cell => true
  | _ => false
theorem loc_of {sc : Scope} {x : Str} (h : locB sc x = true) : Loc sc x := by
  unfold locB at h
  split at h
  · exact .inl ‹_›
  · exact .inr ‹_›
  · cases h
theorem vis_of {sc : Scope} {x : Str} (h : visB sc x = true) : Vis sc x := by
  unfold visB at h
  split at h
  · exact .inl ‹_›
  · exact .inr (.inl ‹_›)
  · exact .inr (.inr ‹_›)
  · cases h
theorem gl_of {sc : Scope} {x : Str} (h : glB sc x = true) : sc.names.lookup x = some .globalImplicit := by
  unfold glB at h
  split at h
  · assumption
  · cases h
/-- a name that may be stored -/
def Sto (X : Cx) (sc : Scope) (x : Str) : Prop := Loc sc x ∧ (X.fn x = true ∨ sc.names.lookup x = some .local)
def lclB (sc : Scope) (x : Str) : Bool := match sc.names.lookup x with
  | some .local => true
  | _ => false
theorem sto_l {X : Cx} {sc : Scope} {x : Str} (h : lclB sc x = true) : Sto X sc x := by
  unfold lclB at h
  split at h
  · exact ⟨.inl ‹_›, .inr ‹_›⟩
  · cases h
theorem sto_c {X : Cx} {sc : Scope} {x : Str} (D : ∀ x, X.fn x = true) (h : locB sc x = true) : Sto X sc x := ⟨loc_of h, .inl (D x)⟩
structure Cf0 (X : Cx) (W : WX) (sc : Scope) (N : List Str) : Prop where
  hsc : X.env.scope = sc
  hN : X.N = N
  nd : N.Nodup
  tk : Takes X W
  hu : X.A.units + 64 < cLine
  pass : PassesOwn (model X.prog X.w) X.A X.env X.xe
  hu2 : X.A.units + 150 < cLine
/-- .. outside of an except suite -/
structure Cf (X : Cx) (W : WX) (sc : Scope) (N : List Str) : Prop extends Cf0 X W sc N where
  calm : X.calm = true
section
variable {X : Cx} {W : WX} {sc : Scope} {N : List Str} {Γ : List Sl}
theorem Cf0.gl (C : Cf0 X W sc N) {x : Str} (h : glB sc x = true) : Gl X x := by
  show X.env.scope.names.lookup x = _
  rw [C.hsc]
  exact gl_of h
/-- from a pure reading -/
theorem evp_of {e : Expr} {t : TE} {a : AV} (h : PE X e t) (k : ∀ σ H Q G, Sta X.K G H σ Γ → (∀ G' H' v, Ext G H G' H' → Sta X.K G' H' σ Γ → AVok X.K G' H' σ v a → Q v H') → t σ H Q) : EvP X W Γ e a :=
  pe_imp h fun σ H Q ⟨G, S, p⟩ => k σ H Q G S fun G' H' v e' S' a' => p G' H' e' v S' a'
theorem evp_var (C : Cf0 X W sc N) {i : Nat} {x : Str} {pos : Pos} {fr : Bool} {d : PyData} (hg : Γ[i]? = some (.dat fr d)) (hN : N[i]? = some x) (hv : visB sc x = true)
    (hd : (x == ("__debug__" : Str)) = false := by decide +kernel) (hcd : (x == ("__classdict__" : Str)) = false := by decide +kernel) : EvP X W Γ (.Name x pos) (.d fr d) := by
  refine evp_of (pe_var (i := i) (by rw [C.hN]; exact hN) (by rw [C.hsc]; exact vis_of hv) hd hcd) fun σ H Q G S k => ?_
  obtain ⟨A, T⟩ := id S
  obtain ⟨_, v, h1, h2⟩ := T.sl i _ hg
  exact ⟨v, h1, k G H v (Ext.rf S.w) S h2⟩
theorem evp_slot (C : Cf0 X W sc N) {i : Nat} {x : Str} {pos : Pos} {c : Cl} (hg : Γ[i]? = some (.own c) ∨ Γ[i]? = some (.io c)) (hN : N[i]? = some x) (hv : visB sc x = true)
    (hd : (x == ("__debug__" : Str)) = false := by decide +kernel) (hcd : (x == ("__classdict__" : Str)) = false := by decide +kernel) : EvP X W Γ (.Name x pos) (.s i) := by
  refine evp_of (pe_var (i := i) (by rw [C.hN]; exact hN) (by rw [C.hsc]; exact vis_of hv) hd hcd) fun σ H Q G S k => ?_
  obtain ⟨A, T⟩ := id S
  have : ∃ v, σ[i]? = some (some v) := by
    rcases hg with hg | hg
    · obtain ⟨v, h1, _⟩ := T.sl i _ hg
      exact ⟨v, h1⟩
    · obtain ⟨v, h1, _⟩ := T.sl i _ hg
      exact ⟨v, h1⟩
  obtain ⟨v, h1⟩ := this
  exact ⟨v, h1, k G H v (Ext.rf S.w) S h1⟩
theorem evp_const {e : Expr} {v : V} {d : PyData} (h : PE X e (tC v)) (hd : ∀ K G H, Dn K G H v d) : EvP X W Γ e (.d true d) :=
  evp_of h fun σ H Q G S k => k G H v (Ext.rf S.w) S (hd _ _ _)
theorem evp_int {i : Int} {j : Nat} {pos : Pos} : EvP X W Γ (.Constant (.int i) j pos) (.d true (.int i)) := evp_const pe_int fun _ _ _ => .int i
theorem evp_bool {b : Bool} {j : Nat} {pos : Pos} : EvP X W Γ (.Constant (.bool b) j pos) (.d true (.bool b)) := evp_const pe_bl fun _ _ _ => .bl b
theorem evp_none {j : Nat} {pos : Pos} : EvP X W Γ (.Constant .none j pos) (.d true .none) := evp_const pe_non fun _ _ _ => .non
theorem evp_str {x : Str} {j : Nat} {pos : Pos} : EvP X W Γ (.Constant (.str x) j pos) (.d true (.str x)) := evp_const pe_str fun _ _ _ => .str x
/-- a pure expression with its datum named -/
theorem EvP.to {e : Expr} {fr : Bool} {d : PyData} {τ : Type} (h : EvP X W Γ e (.d fr d)) (x : τ) (enc : τ → PyData) (hx : enc x = d := by rfl) : Ev X W Γ e (R.val x) (fun r => .d fr (enc r)) (fun _ => Γ) := by
  subst hx
  exact h
/-- data that hold no list are free of their region -/
theorem Ev.free {e : Expr} {τ : Type} {m : R τ} {fr fr' : Bool} {enc : τ → PyData} {Γ' : τ → List Sl} (h : Ev X W Γ e m (fun r => .d fr (enc r)) Γ') (hf : ∀ r, flat (enc r) = true) : Ev X W Γ e m (fun r => .d fr' (enc r)) Γ' :=
  pe_imp h fun σ H Q ⟨G, S, p⟩ => ⟨G, S, p.imp fun r G' H' _ k v S' a => k v S' (Dn.free a (hf r))⟩
theorem EvP.free {e : Expr} {fr fr' : Bool} {d : PyData} (h : EvP X W Γ e (.d fr d)) (hf : flat d = true) : EvP X W Γ e (.d fr' d) := Ev.free h fun _ => hf
theorem EvP.any {e : Expr} {fr : Bool} {d : PyData} (h : EvP X W Γ e (.d fr d)) : EvP X W Γ e (.d false d) :=
  pe_imp h fun σ H Q ⟨G, S, p⟩ => ⟨G, S, p.imp fun r G' H' _ k v S' a => k v S' (Dn.mono (rg_ff G' fr) (TupLe.rf _) a)⟩
/-- a new list is frozen -/
theorem EvF.ev {e : Expr} {τ : Type} {m : R τ} {ds : τ → List PyData} {Γ' : τ → List Sl} (h : EvF X W Γ e m ds Γ') : Ev X W Γ e m (fun r => .d true (.list (ds r))) Γ' :=
  pe_imp h fun σ H Q ⟨G, S, p⟩ => ⟨G, S, p.impG fun r G' H' _ k p vs S' hp hd => by
    obtain ⟨S2, e2⟩ := S'.grow (grow_new (o := .lst vs) S'.w hp)
    exact k _ _ e2 _ S2 (.lst (.inl upd_same) (hd.mono e2.n e2.t))⟩
theorem evp_glob (C : Cf0 X W sc N) {x : Str} {v : V} {u : Value} {d : PyData} {pos : Pos} (hg : glB sc x = true) (hm : X.mg x = some u) (r : RelV v u) (hd : ∀ G H, Dn X.K G H v d) (hdb : (x == ("__debug__" : Str)) = false := by decide +kernel) :
    EvP X W Γ (.Name x pos) (.d true d) :=
  evp_of (pe_glob (C.gl hg) hm r hdb) fun σ H Q G S k => k G H v (Ext.rf S.w) S (hd _ _)

/-! ## two operands -/
/-- the reading of two operands and an operator -/
theorem bin_rd {α β γ : Type} {ma : R α} {ava : α → AV} {Γa : α → List Sl} {mb : α → R β} {avb : α → β → AV} {Γb : α → β → List Sl} {k : α → β → R γ} {avk : γ → AV} {Γk : γ → List Sl} {r : R2}
    (hk : ∀ x y G H σ u v Q, Sta X.K G H σ (Γb x y) → AVok X.K G H σ u (ava x) → AVok X.K G H σ v (avb x y) → Pst X W G H σ (k x y) (fun z G' H' => ∀ w, Sta X.K G' H' σ (Γk z) → AVok X.K G' H' σ w (avk z) → Q w H') → r u v H Q)
    {σ : St} {H : Hp} {Q : VK} (h : rdE X W Γ (ma.bind fun x => (mb x).bind fun y => k x y) avk Γk σ H Q) :
    tOp r (rdE X W Γ ma ava Γa) (fun σ H Q => ∃ x, rdE X W (Γa x) (mb x) (avb x) (Γb x) σ H Q) σ H Q := by
  obtain ⟨G, S, p⟩ := h
  refine ⟨G, S, (Pst.bind p).imp fun x G1 H1 e1 p1 u S1 a1 => ⟨x, G1, S1, (Pst.bind p1).imp fun y G2 H2 e2 p2 v S2 a2 => ?_⟩⟩
  exact hk x y G2 H2 σ u v Q S2 (a1.ext e2) a2 p2
variable {a b : Expr} {pos : Pos} {α β γ : Type} {ma : R α} {mb : α → R β} {Γa : α → List Sl} {Γb : α → β → List Sl} {Γk : γ → List Sl}
/-- ints in, a total answer out -/
theorem ev_ar {op : Operator} {g : Int → Int → Int} {f1 f2 : Bool} {fa : α → Int} {fb : α → β → Int} (ho : OpR X (binaryOp op) (rI0 fun i j => .int (g i j))) (ha : Ev X W Γ a ma (fun x => .d f1 (.int (fa x))) Γa)
    (hb : ∀ x, Ev X W (Γa x) b (mb x) (fun y => .d f2 (.int (fb x y))) (Γb x)) (kk : α → β → γ) (fk : γ → Int) (h1 : ∀ x y, fk (kk x y) = g (fa x) (fb x y) := by intros; rfl) (h2 : ∀ x y, Γk (kk x y) = Γb x y := by intros; rfl) :
    Ev X W Γ (.BinOp a op b pos) (ma.bind fun x => (mb x).bind fun y => .val (kk x y)) (fun z => .d true (.int (fk z))) Γk := by
  refine pe_imp (pe_op ho ha (pe_any hb)) fun σ H Q h => bin_rd (fun x y G H σ u v Q S au av p => ?_) h
  refine ⟨fa x, fb x y, dn_int au, dn_int av, p G H (Ext.rf S.w) _ (by rw [h2]; exact S) ?_⟩
  show Dn _ _ _ _ _
  rw [h1]
  exact .int _
/-- ints in, under a condition -/
theorem ev_arC {op : Operator} {g : Int → Int → Int} {P : Int → Int → Prop} {f1 f2 : Bool} {fa : α → Int} {fb : α → β → Int} (c : Int → Int → Bool) (ho : OpR X (binaryOp op) (rI P fun i j => .int (g i j))) (hc : ∀ i j, c i j = true → P i j)
    (ha : Ev X W Γ a ma (fun x => .d f1 (.int (fa x))) Γa) (hb : ∀ x, Ev X W (Γa x) b (mb x) (fun y => .d f2 (.int (fb x y))) (Γb x)) (kk : α → β → γ) (fk : γ → Int)
    (h1 : ∀ x y, fk (kk x y) = g (fa x) (fb x y) := by intros; rfl) (h2 : ∀ x y, Γk (kk x y) = Γb x y := by intros; rfl) :
    Ev X W Γ (.BinOp a op b pos) (ma.bind fun x => (mb x).bind fun y => if c (fa x) (fb x y) then .val (kk x y) else .bad) (fun z => .d true (.int (fk z))) Γk := by
  refine pe_imp (pe_op ho ha (pe_any hb)) fun σ H Q h => bin_rd (fun x y G H σ u v Q S au av p => ?_) h
  cases e : c (fa x) (fb x y) with
  | false => rw [if_neg (by rw [e]; simp)] at p; exact False.elim p
  | true =>
    rw [if_pos e] at p
    refine ⟨fa x, fb x y, dn_int au, dn_int av, hc _ _ e, p G H (Ext.rf S.w) _ (by rw [h2]; exact S) ?_⟩
    show Dn _ _ _ _ _
    rw [h1]
    exact .int _
end
end PD


set_option Elab.async false
set_option linter.all false
set_option maxRecDepth 100000
set_option maxHeartbeats 4000000
set_option autoImplicit false
namespace PD
open PySem L2
theorem itT {P Q : Prop} (h : P) : if true = true then P else Q := by rw [if_pos rfl]; exact h
theorem itF {P Q : Prop} (h : Q) : if false = true then P else Q := by rw [if_neg (by simp)]; exact h
theorem R.bind_assoc {α β γ : Type} (m : R α) (f : α → R β) (g : β → R γ) : (m.bind f).bind g = m.bind fun a => (f a).bind g := by cases m <;> rfl
theorem R.bind_val {α : Type} (m : R α) : (m.bind fun a => .val a) = m := by cases m <;> rfl
def R.ofO {α : Type} : Option α → R α
  | some a => .val a
  | none => .bad
def R.req (b : Bool) : R Unit := if b then .val () else .bad
def cMul (i j : Int) : Bool := decide (i.natAbs.log2 + j.natAbs.log2 < 1000000)
def cDiv (_ j : Int) : Bool := decide (0 < j) && decide (j.natAbs.log2 < 9000)
def cMod (_ j : Int) : Bool := decide (0 < j)
def cShl (i j : Int) : Bool := decide (0 ≤ j) && decide ((Builtin.Int.intBits i : Int) + j ≤ 2 ^ 27)
def cShr (_ j : Int) : Bool := decide (0 ≤ j)
def cPow (i j : Int) : Bool := decide (0 ≤ j ∧ j ≤ 1000000 ∧ i.natAbs < 2 ^ 64)
theorem cMul_ok (i j : Int) (h : cMul i j = true) : CMulW i j := of_decide_eq_true (p := i.natAbs.log2 + j.natAbs.log2 < 1000000) h
theorem cDiv_ok (i j : Int) (h : cDiv i j = true) : CDivW i j := by
  unfold cDiv at h
  rw [Bool.and_eq_true] at h
  exact ⟨of_decide_eq_true h.1, of_decide_eq_true h.2⟩
theorem cMod_ok (i j : Int) (h : cMod i j = true) : 0 < j := of_decide_eq_true h
theorem cShl_ok (i j : Int) (h : cShl i j = true) : CShl i j := by
  unfold cShl at h
  rw [Bool.and_eq_true] at h
  exact ⟨of_decide_eq_true h.1, of_decide_eq_true h.2⟩
theorem cShr_ok (i j : Int) (h : cShr i j = true) : 0 ≤ j := of_decide_eq_true h
theorem cPow_ok (i j : Int) (h : cPow i j = true) : CPow i j := of_decide_eq_true (p := 0 ≤ j ∧ j ≤ 1000000 ∧ i.natAbs < 2 ^ 64) h
inductive Rdb (Γ : List Sl) : AV → PyData → Prop
  | d {fr : Bool} {z : PyData} : Rdb Γ (.d fr z) z
  | o {i : Nat} {es : List PyData} : Γ[i]? = some (.own (.lst es)) → Rdb Γ (.s i) (.list es)
  | i {i : Nat} {es : List PyData} : Γ[i]? = some (.io (.lst es)) → Rdb Γ (.s i) (.list es)
theorem atI_map {α β : Type} (f : α → β) (xs : List α) (i : Int) : atI (xs.map f) i = (atI xs i).map f := by
  unfold atI
  rw [List.length_map]
  cases ixN xs.length i with
  | none => rfl
  | some j => simp
theorem atI_dn {K : PySem.W.Frag} {G : Rg} {H : Hp} {vs : List V} {ds : List PyData} {i : Int} {d : PyData} (h : DnA K G H vs ds) (e : atI ds i = some d) : ∃ v, atI vs i = some v ∧ Dn K G H v d := by
  unfold atI at e ⊢
  rw [h.length]
  cases q : ixN ds.length i with
  | none => rw [q] at e; cases e
  | some j =>
    rw [q] at e
    exact h.get' e
def szB {α : Type} (xs : List α) : Bool := decide (xs.length ≤ sizeLine)
def mkS (io : Bool) (c : Cl) : Sl := if io then .io c else .own c
theorem Sta.chg {K : PySem.W.Frag} {G : Gh} {H : Hp} {σ : St} {Γ : List Sl} {ds : List PyData} (s : Sta K G H σ Γ) (i : Nat) (io : Bool) (hi : Γ[i]? = some (mkS io (.lst ds))) :
    ∃ p vs, σ[i]? = some (some (.ref p)) ∧ H p = some (.lst vs) ∧ DnA K (rg G true) H vs ds ∧
      ∀ vs' ds', DnA K (rg G true) H vs' ds' → Sta K G (upd H p (.lst vs')) σ (Γ.set i (mkS io (.lst ds'))) ∧ Ext G H G (upd H p (.lst vs')) := by
  cases io with
  | true => exact s.changeIo i hi
  | false => exact s.change i hi
def ltS {α : Type} (xs : List α) : Bool := decide (xs.length < sizeLine)
section
variable {X : Cx} {W : WX} {sc : Scope} {N : List Str} {Γ : List Sl} {a b c : Expr} {pos : Pos}
theorem Ev.tst {e : Expr} {τ : Type} {m : R τ} {fr : Bool} {b : τ → Bool} {Γ1 : τ → List Sl} (h : Ev X W Γ e m (fun r => .d fr (.bool (b r))) Γ1) (he : ∀ whole, isTrue e X.env whole = (do let v ← whole; standAt e.pos; holding [v] (truthy v)) := by intro _; rfl) : EvT X W Γ e m b Γ1 :=
  pt_imp (pt_val h he) fun σ H Q ⟨G, S, p⟩ => ⟨G, S, Pst.imp p fun r G' H' _ k v S' a => ⟨b r, dn_bool a, k S'⟩⟩
theorem evt_notM {τ : Type} {m : R τ} {z : τ → Bool} {Γ1 : τ → List Sl} (ha : EvT X W Γ a m z Γ1) : EvT X W Γ (.UnaryOp .Not a pos) m (fun r => !z r) Γ1 :=
  pt_imp (pt_not ha) fun σ H Q ⟨G, S, p⟩ => ⟨G, S, p⟩
end
theorem Sta.lent {K : PySem.W.Frag} {G : Gh} {H : Hp} {σ : St} {Γ : List Sl} {i : Nat} {es : List PyData} {v : V} (S : Sta K G H σ Γ) (h : Γ[i]? = some (.own (.lst es)) ∨ Γ[i]? = some (.io (.lst es))) (hv : σ[i]? = some (some v)) : Dn K (RgH H) H v (.list es) := by
  rcases h with h | h
  · obtain ⟨p, vs, h1, h2, h3, _⟩ := S.change i h
    rw [hv] at h1
    cases h1
    exact .lst (.inl h2) (h3.mono (S.w.rgl true) (TupLe.rf _))
  · obtain ⟨p, vs, h1, h2, h3, _⟩ := S.changeIo i h
    rw [hv] at h1
    cases h1
    exact .lst (.inl h2) (h3.mono (S.w.rgl true) (TupLe.rf _))
theorem Rdb.ok {K : PySem.W.Frag} {G : Gh} {H : Hp} {σ : St} {Γ : List Sl} {a : AV} {z : PyData} {v : V} (h : Rdb Γ a z) (S : Sta K G H σ Γ) (hv : AVok K G H σ v a) : Dn K (RgH H) H v z := by
  cases h with
  | d => exact S.w.dn hv
  | o hg => exact S.lent (.inl hg) hv
  | i hg => exact S.lent (.inr hg) hv
section
variable {X : Cx} {W : WX} {Γ : List Sl} {a b : Expr} {op : CmpOp} {pos : Pos}
theorem cmp_test {M : Model} {A : Around} {E : Value → Shared → Prop} {env : Env} {s : Shared} {l r : Expr} {op : CmpOp} {pos : Pos} {whole : Sem Value} {Q : Bool → Shared → Prop} (h : wpAny M A (eval (.Compare l [op] [r] pos) env) (fun c s' => wpAny M A (truthy c) Q E s') E s) (hm : behindInMarks op r = false) :
    wpAny M A (isTrue (.Compare l [op] [r] pos) env whole) Q E s := fun Γ p hΓ => by
  have q := h Γ p hΓ
  simp only [eval_Compare1, markedBehindIn_of_false hm, Sem.wp_bind', Sem.wp_holding, Sem.wp_cmd_standAt, Sem.wp_operate] at q
  simp only [isTrue_Compare1, markedBehindIn_of_false hm, Sem.wp_bind', Sem.wp_holding, Sem.wp_cmd_standAt, Sem.wp_operate]
  exact Sem.wp_mono M Γ _ (fun a p1 s1 h1 => Sem.wp_mono M Γ _ (fun b p2 s2 h2 => Sem.wp_mono M Γ _ (fun c p3 s3 h3 => h3 Γ p3 hΓ) (fun _ _ _ z => z) _ _ h2) (fun _ _ _ z => z) _ _ h1) (fun _ _ _ z => z) _ _ q
theorem pt_cmpV {X : Cx} {a b : Expr} {op : CmpOp} {pos : Pos} {t : TE} (h : PE X (.Compare a [op] [b] pos) t) (hm : behindInMarks op b = false) : PT X (.Compare a [op] [b] pos) (tB t) := by
  refine ⟨fun pins s σ H Q I hw => cmp_test (thn (h.run pins s σ H _ I hw) fun v s1 ⟨x, H1, I1, r1, q1⟩ => ?_) hm⟩
  obtain ⟨d, rfl, q⟩ := q1
  cases r1
  exact wpAny_truthy_bool ⟨H1, I1, q⟩
theorem Ev.tstC {τ : Type} {m : R τ} {fr : Bool} {z : τ → Bool} {Γ1 : τ → List Sl} (h : Ev X W Γ (.Compare a [op] [b] pos) m (fun r => .d fr (.bool (z r))) Γ1) (hm : behindInMarks op b = false := by first | exact nobehind _ (by decide) (by decide) | rfl) : EvT X W Γ (.Compare a [op] [b] pos) m z Γ1 :=
  pt_imp (pt_cmpV h hm) fun σ H Q ⟨G, S, p⟩ => ⟨G, S, Pst.imp p fun r G' H' _ k v S' a => ⟨z r, dn_bool a, k S'⟩⟩
end
theorem AVs.length {K : PySem.W.Frag} {G : Gh} {H : Hp} {σ : St} : ∀ {vs : List V} {as : List AV}, AVs K G H σ vs as → vs.length = as.length
  | _, _, .nil => rfl
  | _, _, .cons _ a => by simp [AVs.length a]
theorem Sta.newTup {K : PySem.W.Frag} {G : Gh} {H : Hp} {σ : St} {Γ : List Sl} {p : Addr} {vs : List V} {ds : List PyData} {fr : Bool} (S : Sta K G H σ Γ) (hp : H p = none) (hd : DnA K (rg G fr) H vs ds) :
    ∃ G', Sta K G' (upd H p (.tup vs)) σ Γ ∧ Ext G H G' (upd H p (.tup vs)) ∧ Dn K (rg G' fr) (upd H p (.tup vs)) (.ref p) (.tuple ds) := by
  obtain ⟨S', e⟩ := S.grow (grow_new (o := .tup vs) S.w hp)
  exact ⟨_, S', e, .tup upd_same (e.dna hd)⟩
theorem AVs.len {K : PySem.W.Frag} {G : Gh} {H : Hp} {σ : St} : ∀ {vs : List V} {as : List AV}, AVs K G H σ vs as → vs.length = as.length
  | _, _, .nil => rfl
  | _, _, .cons _ a => by simp [AVs.len a]
def max2 (i j : Int) : Int := if j > i then j else i
def min2 (i j : Int) : Int := if j < i then j else i
def b2n (b : Bool) : Int := if b then 1 else 0
def pyTy : PyData → String
  | .none => "NoneType"
  | .bool _ => "bool"
  | .int _ => "int"
  | .str _ => "str"
  | .list _ => "list"
  | .tuple _ => "tuple"
  | .dict _ => "dict"
section
variable {X : Cx} {W : WX} {Γ : List Sl} {a b c : Expr} {rest : List Expr} {pos : Pos} {α β γ : Type} {ma : R α} {ba : α → Bool} {Γa : α → List Sl} {mb : α → R β} {bb : α → β → Bool} {Γb : α → β → List Sl} {Γk : γ → List Sl} {bk : γ → Bool}
def EvWM (X : Cx) (W : WX) (Γ : List Sl) (e : Expr) {τ : Type} (m : R τ) (b : τ → Bool) (Γ' : τ → List Sl) : Prop := PW X e (rdT X W Γ m b Γ')
theorem EvWM.t {e : Expr} (h : EvWM X W Γ e ma ba Γa) : EvT X W Γ e ma ba Γa := PW.pt h
theorem evw_orM1 (h : EvT X W Γ a ma ba Γa) : EvWM X W Γ (.BoolOp .Or [a] pos) ma ba Γa := pw_or1 h
theorem evw_andM1 (h : EvT X W Γ a ma ba Γa) : EvWM X W Γ (.BoolOp .And [a] pos) ma ba Γa := pw_and1 h
theorem evw_orM (ha : EvT X W Γ a ma ba Γa) (hb : ∀ x, EvWM X W (Γa x) (.BoolOp .Or (b :: rest) pos) (mb x) (bb x) (Γb x)) (k1 : α → γ) (k2 : α → β → γ) (h1 : ∀ x, bk (k1 x) = true := by intros; rfl) (h2 : ∀ x, Γk (k1 x) = Γa x := by intros; rfl) (h3 : ∀ x y, bk (k2 x y) = bb x y := by intros; rfl) (h4 : ∀ x y, Γk (k2 x y) = Γb x y := by intros; rfl) :
    EvWM X W Γ (.BoolOp .Or (a :: b :: rest) pos) (ma.bind fun x => if ba x then .val (k1 x) else (mb x).bind fun y => .val (k2 x y)) bk Γk :=
  pw_imp (pw_or ha (pw_any hb)) fun σ H Q ⟨G, S, p⟩ => ⟨G, S, (Pst.bind p).imp fun x G1 H1 e1 p1 S1 => by
    cases hx : ba x with
    | true =>
      rw [if_pos hx] at p1
      have q := p1 G1 H1 (Ext.rf S1.w) (by rw [h2]; exact S1)
      rw [h1] at q
      exact itT q
    | false =>
      rw [if_neg (by rw [hx]; decide)] at p1
      exact itF ⟨x, G1, S1, (Pst.bind p1).imp fun y G2 H2 e2 p2 S2 => by
        have q := p2 G2 H2 (Ext.rf S2.w) (by rw [h4]; exact S2)
        rw [h3] at q
        exact q⟩⟩
theorem evw_andM (ha : EvT X W Γ a ma ba Γa) (hb : ∀ x, EvWM X W (Γa x) (.BoolOp .And (b :: rest) pos) (mb x) (bb x) (Γb x)) (k1 : α → γ) (k2 : α → β → γ) (h1 : ∀ x, bk (k1 x) = false := by intros; rfl) (h2 : ∀ x, Γk (k1 x) = Γa x := by intros; rfl) (h3 : ∀ x y, bk (k2 x y) = bb x y := by intros; rfl) (h4 : ∀ x y, Γk (k2 x y) = Γb x y := by intros; rfl) :
    EvWM X W Γ (.BoolOp .And (a :: b :: rest) pos) (ma.bind fun x => if ba x then (mb x).bind fun y => .val (k2 x y) else .val (k1 x)) bk Γk :=
  pw_imp (pw_and ha (pw_any hb)) fun σ H Q ⟨G, S, p⟩ => ⟨G, S, (Pst.bind p).imp fun x G1 H1 e1 p1 S1 => by
    cases hx : ba x with
    | false =>
      rw [if_neg (by rw [hx]; decide)] at p1
      have q := p1 G1 H1 (Ext.rf S1.w) (by rw [h2]; exact S1)
      rw [h1] at q
      exact itF q
    | true =>
      rw [if_pos hx] at p1
      exact itT ⟨x, G1, S1, (Pst.bind p1).imp fun y G2 H2 e2 p2 S2 => by
        have q := p2 G2 H2 (Ext.rf S2.w) (by rw [h4]; exact S2)
        rw [h3] at q
        exact q⟩⟩
variable {f1 f2 : Bool}
theorem evv_oneM {op : BoolOp} {av : α → AV} (ha : Ev X W Γ a ma av Γa) : Ev X W Γ (.BoolOp op [a] pos) ma av Γa := pe_one ha
theorem ev_ife {av : γ → AV} {m1 m2 : α → R γ} (hc : EvT X W Γ c ma ba Γa) (h1 : ∀ x, Ev X W (Γa x) a (m1 x) av Γk) (h2 : ∀ x, Ev X W (Γa x) b (m2 x) av Γk) : Ev X W Γ (.IfExp c a b pos) (ma.bind fun x => if ba x then m1 x else m2 x) av Γk :=
  pe_imp (pe_ifExp hc (pe_any h1) (pe_any h2)) fun σ H Q ⟨G, S, p⟩ => ⟨G, S, (Pst.bind p).imp fun x G1 H1 e1 p1 S1 => by
    cases hx : ba x with
    | true => rw [if_pos hx] at p1; exact itT ⟨x, G1, S1, p1⟩
    | false => rw [if_neg (by rw [hx]; decide)] at p1; exact itF ⟨x, G1, S1, p1⟩⟩
end
section
variable {X : Cx} {W : WX} {sc : Scope} {N : List Str} {Γ : List Sl}
theorem eva_nil : EvA X W Γ [] (R.val ()) (fun _ => []) (fun _ => Γ) :=
  pa_imp pa_nil fun σ H Q ⟨G, S, p⟩ => p G H (Ext.rf S.w) [] S .nil
theorem eva_cons {e : Expr} {es : List Expr} {α β γ : Type} {ma : R α} {ava : α → AV} {Γa : α → List Sl} {mb : α → R β} {asb : α → β → List AV} {Γb : α → β → List Sl} (kk : α → β → γ) {as : γ → List AV} {Γk : γ → List Sl}
    (ha : Ev X W Γ e ma ava Γa) (hb : ∀ x, EvA X W (Γa x) es (mb x) (asb x) (Γb x)) (h1 : ∀ x y, as (kk x y) = ava x :: asb x y := by intros; rfl) (h2 : ∀ x y, Γk (kk x y) = Γb x y := by intros; rfl)
    (hst : starEach (e :: es) X.env = (false, eval e X.env) :: starEach es X.env := by rfl) :
    EvA X W Γ (e :: es) (ma.bind fun x => (mb x).bind fun y => .val (kk x y)) as Γk := by
  refine pa_imp (pa_cons ha (pa_any hb) hst) fun σ H Q ⟨G, S, p⟩ => ?_
  refine ⟨G, S, (Pst.bind p).imp fun x G1 H1 e1 p1 v S1 a1 => ⟨x, G1, S1, (Pst.bind p1).imp fun y G2 H2 e2 p2 vs S2 a2 => ?_⟩⟩
  refine p2 G2 H2 (Ext.rf S2.w) (v :: vs) (by rw [h2]; exact S2) ?_
  rw [h1]
  exact .cons (a1.ext e2) a2
end
def sortI (ns : List Int) : List Int := ns.mergeSort (fun a b => decide (a ≤ b))
theorem sortI_perm (ns : List Int) : (sortI ns).Perm ns := List.mergeSort_perm ..
theorem sortI_le (ns : List Int) : (sortI ns).Pairwise (· ≤ ·) := by
  have := List.pairwise_mergeSort (le := fun a b : Int => decide (a ≤ b)) (fun a b c h1 h2 => by simp at *; omega) (fun a b => by simp; omega) ns
  exact this.imp fun h => by simpa using h
theorem sortI_unique {ns ms : List Int} (hp : ms.Perm ns) (hs : ms.Pairwise (· ≤ ·)) : ms = sortI ns := PySem.W.ksm_same (hp.trans (sortI_perm ns).symm) hs (sortI_le ns)
end PD


set_option Elab.async false
set_option linter.all false
set_option maxRecDepth 100000
set_option maxHeartbeats 4000000
set_option autoImplicit false
namespace PD
open PySem L2
/-! ## what a text does, as a function of the slots -/
abbrev DF := List Sl → R (AV × List Sl)
abbrev DA := List Sl → R (List AV × List Sl)
abbrev DT := List Sl → R (Bool × List Sl)
abbrev DN := List Sl → R (List PyData × List Sl)
section
variable (X : Cx) (W : WX)
def CE (e : Expr) (f : DF) : Prop := ∀ Γ, Ev X W Γ e (f Γ) Prod.fst Prod.snd
def CT (e : Expr) (f : DT) : Prop := ∀ Γ, EvT X W Γ e (f Γ) Prod.fst Prod.snd
def CW (e : Expr) (f : DT) : Prop := ∀ Γ, EvWM X W Γ e (f Γ) Prod.fst Prod.snd
def CN (e : Expr) (f : DN) : Prop := ∀ Γ, EvF X W Γ e (f Γ) Prod.fst Prod.snd
def CA (es : List Expr) (f : DA) : Prop := ∀ Γ, EvA X W Γ es (f Γ) Prod.fst Prod.snd
/-- what is wanted of an answer -/
def Pk (G : Gh) (H : Hp) (σ : St) (m : R (AV × List Sl)) (Q : VK) : Prop := Pst X W G H σ m fun y G' H' => ∀ w, Sta X.K G' H' σ y.2 → AVok X.K G' H' σ w y.1 → Q w H'
end
section
variable {X : Cx} {W : WX} {sc : Scope} {N : List Str} {a b c e : Expr} {pos : Pos} {f g : DF}
theorem Pk.v {G : Gh} {H : Hp} {σ : St} {y : AV} {Γ : List Sl} {Q : VK} (h : Pk X W G H σ (.val (y, Γ)) Q) (S : Sta X.K G H σ Γ) {w : V} (hw : AVok X.K G H σ w y) : Q w H := h G H (Ext.rf S.w) w S hw
theorem Pk.v' {G G' : Gh} {H H' : Hp} {σ : St} {y : AV} {Γ : List Sl} {Q : VK} (h : Pk X W G H σ (.val (y, Γ)) Q) (e : Ext G H G' H') (S : Sta X.K G' H' σ Γ) {w : V} (hw : AVok X.K G' H' σ w y) : Q w H' := h G' H' e w S hw
theorem ev_bad {τ : Type} {Γ : List Sl} {av : τ → AV} {Γ' : τ → List Sl} (h : PE X e (fun _ _ _ => False) := ⟨fun _ _ _ _ _ _ z => z.elim⟩) : Ev X W Γ e (R.bad : R τ) av Γ' := pe_imp h fun σ H Q ⟨G, S, p⟩ => p
theorem evf_bad {τ : Type} {Γ : List Sl} {av : τ → List PyData} {Γ' : τ → List Sl} (h : PE X e (fun _ _ _ => False) := ⟨fun _ _ _ _ _ _ z => z.elim⟩) : EvF X W Γ e (R.bad : R τ) av Γ' := pe_imp h fun σ H Q ⟨G, S, p⟩ => p
theorem evt_bad {τ : Type} {Γ : List Sl} {av : τ → Bool} {Γ' : τ → List Sl} (h : PT X e (fun _ _ _ => False) := ⟨fun _ _ _ _ _ _ z => z.elim⟩) : EvT X W Γ e (R.bad : R τ) av Γ' := pt_imp h fun σ H Q ⟨G, S, p⟩ => p
/-- names -/
def dVar (i : Nat) : DF := fun Γ => match Γ[i]? with
  | some (.dat fr d) => .val (.d fr d, Γ)
  | some (.own _) => .val (.s i, Γ)
  | some (.io _) => .val (.s i, Γ)
  | _ => .bad
theorem ce_var (C : Cf0 X W sc N) (i : Nat) {x : Str} (hN : N[i]? = some x) (hv : visB sc x = true)
    (hd : (x == ("__debug__" : Str)) = false := by decide +kernel) (hcd : (x == ("__classdict__" : Str)) = false := by decide +kernel) : CE X W (.Name x pos) (dVar i) := fun Γ => by
  unfold dVar
  split
  · exact evp_var C ‹_› hN hv hd hcd
  · exact evp_slot C (.inl ‹_›) hN hv hd hcd
  · exact evp_slot C (.inr ‹_›) hN hv hd hcd
  · exact ev_bad
def dC (d : PyData) : DF := fun Γ => .val (.d true d, Γ)
theorem ce_int {i : Int} {j : Nat} : CE X W (.Constant (.int i) j pos) (dC (.int i)) := fun Γ => evp_int (W := W)
theorem ce_bool {i : Bool} {j : Nat} : CE X W (.Constant (.bool i) j pos) (dC (.bool i)) := fun Γ => evp_bool (W := W)
theorem ce_none {j : Nat} : CE X W (.Constant .none j pos) (dC .none) := fun Γ => evp_none (W := W)
theorem ce_str {x : Str} {j : Nat} : CE X W (.Constant (.str x) j pos) (dC (.str x)) := fun Γ => evp_str (W := W)
theorem ce_glob (C : Cf0 X W sc N) {x : Str} {v : V} {u : Value} {d : PyData} (hg : glB sc x = true) (hm : X.mg x = some u) (r : RelV v u) (hd : ∀ G H, Dn X.K G H v d) (hdb : (x == ("__debug__" : Str)) = false := by decide +kernel) : CE X W (.Name x pos) (dC d) := fun Γ => evp_glob C hg hm r hd hdb
/-! two operands -/
theorem ce_op2 {op : Operator} {r : R2} (k : AV → AV → List Sl → R (AV × List Sl)) (ho : OpR X (binaryOp op) r) (ha : CE X W a f) (hb : CE X W b g)
    (hk : ∀ x y Γ2 G H σ u v Q, Sta X.K G H σ Γ2 → AVok X.K G H σ u x → AVok X.K G H σ v y → Pk X W G H σ (k x y Γ2) Q → r u v H Q) : CE X W (.BinOp a op b pos) (fun Γ => (f Γ).bind fun x => (g x.2).bind fun y => k x.1 y.1 y.2) := fun Γ =>
  pe_imp (pe_op ho (ha Γ) (pe_any fun x : AV × List Sl => hb x.2)) fun σ H Q h => bin_rd (X := X) (W := W) (ava := Prod.fst) (Γa := Prod.snd) (avb := fun _ (y : AV × List Sl) => y.1) (Γb := fun _ (y : AV × List Sl) => y.2) (avk := Prod.fst) (Γk := Prod.snd) (k := fun (x : AV × List Sl) (y : AV × List Sl) => k x.1 y.1 y.2) (fun x y G H σ u v Q S hu hv p => hk x.1 y.1 y.2 G H σ u v Q S hu hv p) h
def dI (k : Int → Int → R Int) (f g : DF) : DF := fun Γ => (f Γ).bind fun x => (g x.2).bind fun y => match x.1, y.1 with
  | .d _ (.int i), .d _ (.int j) => (k i j).bind fun n => .val (.d true (.int n), y.2)
  | _, _ => .bad
theorem ce_ii {op : Operator} {h : Int → Int → Int} {P : Int → Int → Prop} {k : Int → Int → R Int} (hk : ∀ i j, k i j = .bad ∨ (P i j ∧ k i j = .val (h i j))) (ho : OpR X (binaryOp op) (rI P fun i j => .int (h i j))) (ha : CE X W a f) (hb : CE X W b g) : CE X W (.BinOp a op b pos) (dI k f g) := by
  refine ce_op2 (fun x y Γ2 => match x, y with
    | .d _ (.int i), .d _ (.int j) => (k i j).bind fun n => .val (.d true (.int n), Γ2)
    | _, _ => .bad) ho ha hb fun x y Γ2 G H σ u v Q S hu hv p => ?_
  split at p
  · rename_i i _ j
    rcases hk i j with e | ⟨hP, e⟩
    · rw [e] at p; exact p.elim
    · rw [e] at p
      exact ⟨i, j, dn_int hu, dn_int hv, hP, Pk.v p S (.int _)⟩
  · exact p.elim
theorem opI_of {F : Value → Value → Sem Value} {h : Int → Int → V} (ho : OpR X F (rI0 h)) : OpR X F (rI (fun _ _ => True) h) := fun pins s σ H x y v u Q I rx ry ⟨i, j, e1, e2, _, q⟩ => ho pins s σ H x y v u Q I rx ry ⟨i, j, e1, e2, q⟩
theorem opR_or {F : Value → Value → Sem Value} {r1 r2 : R2} (h1 : OpR X F r1) (h2 : OpR X F r2) : OpR X F (fun u v H Q => r1 u v H Q ∨ r2 u v H Q) := fun pins s σ H x y v u Q I rx ry z => z.elim (h1 pins s σ H x y v u Q I rx ry) (h2 pins s σ H x y v u Q I rx ry)
def gq {α : Type} (c : Bool) (a : α) : R α := (R.req c).bind fun _ => .val a
theorem gq_cases {α : Type} (c : Bool) (a : α) : gq c a = .bad ∨ (c = true ∧ gq c a = .val a) := by
  cases c
  · exact .inl rfl
  · exact .inr ⟨rfl, rfl⟩
def cMulX (i j : Int) : Bool := decide (i.natAbs < 2 ^ 64) || decide (j.natAbs < 2 ^ 64) || cMul i j
theorem op_mulG : OpR X (binaryOp .Mult) (rI (fun i j => cMulX i j = true) fun i j => .int (i * j)) := fun pins s σ H x y v u Q I rx ry ⟨i, j, e1, e2, c, q⟩ => by
  have c : cMulX i j = true := c
  unfold cMulX at c
  rw [Bool.or_eq_true, Bool.or_eq_true] at c
  rcases c with (c | c) | c
  · have c := of_decide_eq_true c
    exact op_mul pins s σ H x y v u Q I rx ry ⟨i, j, e1, e2, .inl (by omega), q⟩
  · have c := of_decide_eq_true c
    exact op_mul pins s σ H x y v u Q I rx ry ⟨i, j, e1, e2, .inr (by omega), q⟩
  · exact op_mulW pins s σ H x y v u Q I rx ry ⟨i, j, e1, e2, cMul_ok i j c, q⟩
abbrev kSub (i j : Int) : R Int := .val (i - j)
abbrev kAnd (i j : Int) : R Int := .val (Builtin.bitAnd i j)
abbrev kOr (i j : Int) : R Int := .val (Builtin.bitOr i j)
abbrev kMul (i j : Int) : R Int := gq (cMulX i j) (i * j)
abbrev kDiv (i j : Int) : R Int := gq (cDiv i j) (i / j)
abbrev kMod (i j : Int) : R Int := gq (cMod i j) (i % j)
abbrev kPow (i j : Int) : R Int := gq (cPow i j) (i ^ j.toNat)
abbrev kShl (i j : Int) : R Int := gq (cShl i j) (i * 2 ^ j.toNat)
abbrev kShr (i j : Int) : R Int := gq (cShr i j) (i / 2 ^ j.toNat)
theorem ce_sub (ha : CE X W a f) (hb : CE X W b g) : CE X W (.BinOp a .Sub b pos) (dI kSub f g) := ce_ii (fun i j => .inr ⟨trivial, rfl⟩) (opI_of op_sub) ha hb
theorem ce_band (ha : CE X W a f) (hb : CE X W b g) : CE X W (.BinOp a .BitAnd b pos) (dI kAnd f g) := ce_ii (fun i j => .inr ⟨trivial, rfl⟩) (opI_of op_and) ha hb
theorem ce_bor (ha : CE X W a f) (hb : CE X W b g) : CE X W (.BinOp a .BitOr b pos) (dI kOr f g) := ce_ii (fun i j => .inr ⟨trivial, rfl⟩) (opI_of op_or) ha hb
theorem ce_mul (ha : CE X W a f) (hb : CE X W b g) : CE X W (.BinOp a .Mult b pos) (dI kMul f g) := ce_ii (fun i j => gq_cases _ _) op_mulG ha hb
theorem gqP {P : Int → Int → Prop} {c : Int → Int → Bool} (h : ∀ i j, c i j = true → P i j) (k : Int → Int → Int) (i j : Int) : gq (c i j) (k i j) = .bad ∨ (P i j ∧ gq (c i j) (k i j) = .val (k i j)) := (gq_cases _ _).imp id fun z => ⟨h i j z.1, z.2⟩
theorem ce_fdiv (ha : CE X W a f) (hb : CE X W b g) : CE X W (.BinOp a .FloorDiv b pos) (dI kDiv f g) := ce_ii (gqP cDiv_ok fun i j => i / j) op_fdivW ha hb
theorem ce_mod (ha : CE X W a f) (hb : CE X W b g) : CE X W (.BinOp a .Mod b pos) (dI kMod f g) := ce_ii (gqP cMod_ok fun i j => i % j) op_mod ha hb
theorem ce_pow (ha : CE X W a f) (hb : CE X W b g) : CE X W (.BinOp a .Pow b pos) (dI kPow f g) := ce_ii (gqP cPow_ok fun i j => i ^ j.toNat) op_pow ha hb
theorem ce_shl (ha : CE X W a f) (hb : CE X W b g) : CE X W (.BinOp a .LShift b pos) (dI kShl f g) := ce_ii (gqP cShl_ok fun i j => i * 2 ^ j.toNat) op_shlW ha hb
theorem ce_shr (ha : CE X W a f) (hb : CE X W b g) : CE X W (.BinOp a .RShift b pos) (dI kShr f g) := ce_ii (gqP cShr_ok fun i j => i / 2 ^ j.toNat) op_shr ha hb
/-- reading a value as data -/
def rdD (Γ : List Sl) : AV → Option PyData
  | .d _ x => some x
  | .s i => match Γ[i]? with
    | some (.own (.lst es)) => some (.list es)
    | some (.io (.lst es)) => some (.list es)
    | _ => none
theorem rdD_ok {Γ : List Sl} {y : AV} {x : PyData} (h : rdD Γ y = some x) : Rdb Γ y x := by
  cases y with
  | d fr z => cases h; exact .d
  | s i =>
    unfold rdD at h
    simp only at h
    split at h
    · cases h; exact .o ‹_›
    · cases h; exact .i ‹_›
    · cases h
/-- a + b -/
def addA : AV → AV → R AV
  | .d _ (.int i), .d _ (.int j) => .val (.d true (.int (i + j)))
  | .d f1 (.tuple xs), .d f2 (.tuple ys) => gq (szB (xs ++ ys)) (.d (f1 && f2) (.tuple (xs ++ ys)))
  | .d _ (.str x), .d _ (.str y) => gq (decide (x.length + y.length ≤ sizeLine)) (.d true (.str (x ++ y)))
  | _, _ => .bad
def dAdd (f g : DF) : DF := fun Γ => (f Γ).bind fun x => (g x.2).bind fun y => (addA x.1 y.1).bind fun z => .val (z, y.2)
theorem rg_and1 (G : Gh) (f1 f2 : Bool) : RgLe (rg G f1) (rg G (f1 && f2)) := by
  cases f1 <;> cases f2
  · exact fun _ _ h => h
  · exact fun _ _ h => h
  · exact rg_ff G true
  · exact fun _ _ h => h
theorem rg_and2 (G : Gh) (f1 f2 : Bool) : RgLe (rg G f2) (rg G (f1 && f2)) := by
  rw [Bool.and_comm]
  exact rg_and1 G f2 f1
theorem ce_add (ha : CE X W a f) (hb : CE X W b g) : CE X W (.BinOp a .Add b pos) (dAdd f g) := by
  refine ce_op2 (fun x y Γ2 => (addA x y).bind fun z => .val (z, Γ2)) (opR_or op_add (opR_or op_catA op_add_str)) ha hb fun x y Γ2 G H σ u v Q S hu hv p => ?_
  unfold addA at p
  split at p
  · rename_i i _ j
    exact .inl ⟨i, j, dn_int hu, dn_int hv, Pk.v p S (.int _)⟩
  · rename_i f1 xs f2 ys
    rcases gq_cases (szB (xs ++ ys)) (AV.d (f1 && f2) (.tuple (xs ++ ys))) with e | ⟨hc, e⟩
    · rw [e] at p; exact p.elim
    · rw [e] at p
      have hc := of_decide_eq_true hc
      obtain ⟨q1, vs, rfl, g1, g2⟩ := dn_tupleH hu
      obtain ⟨q2, ws, rfl, g3, g4⟩ := dn_tupleH hv
      have d1 := g2.mono (rg_and1 G f1 f2) (TupLe.rf H)
      have d2 := g4.mono (rg_and2 G f1 f2) (TupLe.rf H)
      refine .inr (.inl ⟨q1, q2, vs, ws, rfl, rfl, SqT.of g1, SqT.of g3, by rw [g2.length, g4.length]; simpa using hc, fun e1 => ?_, fun _ e2 => ?_, fun _ _ l hl => ?_⟩)
      · subst e1
        cases d1
        exact Pk.v p S (.tup g3 d2)
      · subst e2
        cases d2
        refine Pk.v p S ?_
        rw [List.append_nil]
        exact .tup g1 d1
      · obtain ⟨G2, S2, e2, h2⟩ := S.newTup hl (d1.append d2)
        exact Pk.v' p e2 S2 h2
  · rename_i x _ y
    rcases gq_cases (decide (x.length + y.length ≤ sizeLine)) (AV.d true (.str (x ++ y))) with e | ⟨hc, e⟩
    · rw [e] at p; exact p.elim
    · rw [e] at p
      exact .inr (.inr ⟨x, y, dn_str hu, dn_str hv, of_decide_eq_true hc, Pk.v p S (.str _)⟩)
  · exact p.elim
/-- -a, not a -/
def dNeg (f : DF) : DF := fun Γ => (f Γ).bind fun x => match x.1 with
  | .d _ (.int i) => .val (.d true (.int (-i)), x.2)
  | _ => .bad
end
section
variable {X : Cx} {W : WX} {sc : Scope} {N : List Str} {a b c e : Expr} {pos : Pos} {f g : DF}
theorem Ev.exc {Γ : List Sl} {τ τ' : Type} {x : Exn} {av : τ → AV} {Γ' : τ → List Sl} {av2 : τ' → AV} {Γ2 : τ' → List Sl} (h : Ev X W Γ e (.exc x : R τ) av Γ') : Ev X W Γ e (.exc x : R τ') av2 Γ2 := pe_imp h fun σ H Q ⟨G, S, p⟩ => ⟨G, S, p⟩
theorem Ev.map {Γ : List Sl} {τ τ' : Type} {m : R τ} {k : τ → τ'} {av : τ' → AV} {Γ' : τ' → List Sl} (h : Ev X W Γ e m (fun r => av (k r)) (fun r => Γ' (k r))) : Ev X W Γ e (m.bind fun r => .val (k r)) av Γ' :=
  pe_imp h fun σ H Q ⟨G, S, p⟩ => ⟨G, S, by cases m <;> exact p⟩
/-- one operand -/
theorem un_rd {Γ : List Sl} {m : R (AV × List Sl)} {k : AV × List Sl → R (AV × List Sl)} {r : V → Hp → VK → Prop} (hk : ∀ x Γ2 G H σ v Q, Sta X.K G H σ Γ2 → AVok X.K G H σ v x → Pk X W G H σ (k (x, Γ2)) Q → r v H Q)
    {σ : St} {H : Hp} {Q : VK} (h : rdE X W Γ (m.bind k) Prod.fst Prod.snd σ H Q) : tUn r (rdE X W Γ m Prod.fst Prod.snd) σ H Q := by
  obtain ⟨G, S, p⟩ := h
  exact ⟨G, S, (Pst.bind p).imp fun x G1 H1 e1 p1 u S1 a1 => hk x.1 x.2 G1 H1 σ u Q S1 a1 p1⟩
theorem ce_neg (ha : CE X W a f) : CE X W (.UnaryOp .USub a pos) (dNeg f) := fun Γ =>
  pe_imp (pe_un un_neg (ha Γ)) fun σ H Q h => un_rd (fun x Γ2 G H σ v Q S hv p => by
    simp only at p
    split at p
    · exact ⟨_, dn_int hv, Pk.v p S (.int _)⟩
    · exact p.elim) h
/-! ## comparisons -/
theorem ce_cmp2 {op : CmpOp} {r : R2} (k : AV → AV → List Sl → R (AV × List Sl)) (ho : OpR X (compareOp op) r) (hm : behindInMarks op b = false) (ha : CE X W a f) (hb : CE X W b g)
    (hk : ∀ x y Γ2 G H σ u v Q, Sta X.K G H σ Γ2 → AVok X.K G H σ u x → AVok X.K G H σ v y → Pk X W G H σ (k x y Γ2) Q → r u v H Q) : CE X W (.Compare a [op] [b] pos) (fun Γ => (f Γ).bind fun x => (g x.2).bind fun y => k x.1 y.1 y.2) := fun Γ =>
  pe_imp (pe_cmpR ho (ha Γ) (pe_any fun x : AV × List Sl => hb x.2) hm) fun σ H Q h => bin_rd (X := X) (W := W) (ava := Prod.fst) (Γa := Prod.snd) (avb := fun _ (y : AV × List Sl) => y.1) (Γb := fun _ (y : AV × List Sl) => y.2) (avk := Prod.fst) (Γk := Prod.snd) (k := fun (x : AV × List Sl) (y : AV × List Sl) => k x.1 y.1 y.2) (fun x y G H σ u v Q S hu hv p => hk x.1 y.1 y.2 G H σ u v Q S hu hv p) h
def boolR (m : R Bool) (Γ : List Sl) : R (AV × List Sl) := m.bind fun b => .val (.d true (.bool b), Γ)
theorem boolR_cases {G : Gh} {H : Hp} {σ : St} {m : R Bool} {Γ : List Sl} {Q : VK} (hx : ∀ x, m ≠ .exc x) (p : Pk X W G H σ (boolR m Γ) Q) (S : Sta X.K G H σ Γ) : ∃ z, m = .val z ∧ Q (.bl z) H := by
  cases m with
  | bad => exact p.elim
  | exc x => exact absurd rfl (hx x)
  | val z => exact ⟨z, rfl, Pk.v p S (.bl z)⟩
def dCmp (k : List Sl → AV → AV → R Bool) (f g : DF) : DF := fun Γ => (f Γ).bind fun x => (g x.2).bind fun y => boolR (k y.2 x.1 y.1) y.2
/-- x == y of data -/
def kEq (Γ : List Sl) (x y : AV) : R Bool := match rdD Γ x, rdD Γ y with
  | some p, some q => gq (SeqAt.shaped p && SeqAt.shaped q) (PyData.eqv p q)
  | _, _ => .bad
def kNe (Γ : List Sl) (x y : AV) : R Bool := (kEq Γ x y).bind fun z => .val (!z)
theorem kEq_val {Γ : List Sl} {x y : AV} : (∃ p q, rdD Γ x = some p ∧ rdD Γ y = some q ∧ SeqAt.shaped p = true ∧ SeqAt.shaped q = true ∧ kEq Γ x y = .val (PyData.eqv p q)) ∨ kEq Γ x y = .bad := by
  unfold kEq
  split
  · rename_i p q h1 h2
    rcases gq_cases (SeqAt.shaped p && SeqAt.shaped q) (PyData.eqv p q) with e | ⟨hc, e⟩
    · exact .inr e
    · rw [Bool.and_eq_true] at hc
      exact .inl ⟨p, q, h1, h2, hc.1, hc.2, e⟩
  · exact .inr rfl
theorem ce_eq (C : Cf0 X W sc N) (ha : CE X W a f) (hb : CE X W b g) (hm : behindInMarks .Eq b = false := by first | exact nobehind _ (by decide) (by decide) | rfl) : CE X W (.Compare a [.Eq] [b] pos) (dCmp kEq f g) :=
  ce_cmp2 (fun x y Γ2 => boolR (kEq Γ2 x y) Γ2) (op_eqD C.hu) hm ha hb fun x y Γ2 G H σ u v Q S hu hv p => by
    rcases kEq_val (Γ := Γ2) (x := x) (y := y) with ⟨d, z, h1, h2, s1, s2, e⟩ | e
    · rw [e] at p
      exact ⟨d, z, ((rdD_ok h1).ok S hu).dps s1, ((rdD_ok h2).ok S hv).dps s2, s1, s2, Pk.v p S (.bl _)⟩
    · rw [e] at p; exact p.elim
theorem ce_ne (C : Cf0 X W sc N) (ha : CE X W a f) (hb : CE X W b g) (hm : behindInMarks .NotEq b = false := by first | exact nobehind _ (by decide) (by decide) | rfl) : CE X W (.Compare a [.NotEq] [b] pos) (dCmp kNe f g) :=
  ce_cmp2 (fun x y Γ2 => boolR (kNe Γ2 x y) Γ2) (op_neD C.hu) hm ha hb fun x y Γ2 G H σ u v Q S hu hv p => by
    unfold kNe at p
    rcases kEq_val (Γ := Γ2) (x := x) (y := y) with ⟨d, z, h1, h2, s1, s2, e⟩ | e
    · rw [e] at p
      exact ⟨d, z, ((rdD_ok h1).ok S hu).dps s1, ((rdD_ok h2).ok S hv).dps s2, s1, s2, Pk.v p S (.bl _)⟩
    · rw [e] at p; exact p.elim
def kI (h : Int → Int → Bool) (_ : List Sl) : AV → AV → R Bool
  | .d _ (.int i), .d _ (.int j) => .val (h i j)
  | _, _ => .bad
theorem ce_cmpI {op : CmpOp} {h : Int → Int → Bool} (ho : OpR X (compareOp op) (rI0 fun i j => .bl (h i j))) (ha : CE X W a f) (hb : CE X W b g) (hm : behindInMarks op b = false) : CE X W (.Compare a [op] [b] pos) (dCmp (kI h) f g) :=
  ce_cmp2 (fun x y Γ2 => boolR (kI h Γ2 x y) Γ2) ho hm ha hb fun x y Γ2 G H σ u v Q S hu hv p => by
    unfold kI at p
    split at p
    · rename_i i _ j
      exact ⟨i, j, dn_int hu, dn_int hv, Pk.v p S (.bl _)⟩
    · exact p.elim
theorem ce_lt (ha : CE X W a f) (hb : CE X W b g) (hm : behindInMarks .Lt b = false := by first | exact nobehind _ (by decide) (by decide) | rfl) : CE X W (.Compare a [.Lt] [b] pos) (dCmp (kI fun i j => decide (i < j)) f g) := ce_cmpI op_lt ha hb hm
theorem ce_le (ha : CE X W a f) (hb : CE X W b g) (hm : behindInMarks .LtE b = false := by first | exact nobehind _ (by decide) (by decide) | rfl) : CE X W (.Compare a [.LtE] [b] pos) (dCmp (kI fun i j => decide (i ≤ j)) f g) := ce_cmpI op_le ha hb hm
theorem ce_gt (ha : CE X W a f) (hb : CE X W b g) (hm : behindInMarks .Gt b = false := by first | exact nobehind _ (by decide) (by decide) | rfl) : CE X W (.Compare a [.Gt] [b] pos) (dCmp (kI fun i j => decide (j < i)) f g) := ce_cmpI op_gt ha hb hm
theorem ce_ge (ha : CE X W a f) (hb : CE X W b g) (hm : behindInMarks .GtE b = false := by first | exact nobehind _ (by decide) (by decide) | rfl) : CE X W (.Compare a [.GtE] [b] pos) (dCmp (kI fun i j => decide (j ≤ i)) f g) := ce_cmpI op_ge ha hb hm
def isN : PyData → Bool
  | .none => true
  | _ => false
def kIs (Γ : List Sl) (x y : AV) : R Bool := match rdD Γ x, y with
  | some p, .d _ .none => .val (isN p)
  | _, _ => .bad
theorem dn_isN {K : PySem.W.Frag} {G : Rg} {H : Hp} {v : V} {p : PyData} (h : Dn K G H v p) : decide (v = .non) = isN p := by cases h <;> rfl
theorem ce_is (ha : CE X W a f) (hb : CE X W b g) (hm : behindInMarks .Is b = false := by first | exact nobehind _ (by decide) (by decide) | rfl) : CE X W (.Compare a [.Is] [b] pos) (dCmp kIs f g) :=
  ce_cmp2 (fun x y Γ2 => boolR (kIs Γ2 x y) Γ2) op_isN hm ha hb fun x y Γ2 G H σ u v Q S hu hv p => by
    unfold kIs at p
    split at p
    · rename_i z _ h1
      refine ⟨dn_none hv, ?_⟩
      rw [dn_isN ((rdD_ok h1).ok S hu)]
      exact Pk.v p S (.bl _)
    · exact p.elim
def kNis (Γ : List Sl) (x y : AV) : R Bool := (kIs Γ x y).bind fun z => .val (!z)
theorem ce_isnot (ha : CE X W a f) (hb : CE X W b g) (hm : behindInMarks .IsNot b = false := by first | exact nobehind _ (by decide) (by decide) | rfl) : CE X W (.Compare a [.IsNot] [b] pos) (dCmp kNis f g) :=
  ce_cmp2 (fun x y Γ2 => boolR (kNis Γ2 x y) Γ2) op_notN hm ha hb fun x y Γ2 G H σ u v Q S hu hv p => by
    unfold kNis kIs at p
    split at p
    · rename_i z _ h1
      refine ⟨dn_none hv, ?_⟩
      rw [dn_isN ((rdD_ok h1).ok S hu)]
      exact Pk.v p S (.bl _)
    · exact p.elim
/-- x in y: a list of data, a tuple of flat data -/
def flD : PyData → Bool
  | .none => true
  | .bool _ => true
  | .int _ => true
  | .str _ => true
  | _ => false
def kIn (Γ : List Sl) (x y : AV) : R Bool := match rdD Γ x, rdD Γ y with
  | some d, some (.list ds) => gq (SeqAt.shaped d && SeqAt.shaped (.list ds)) (ds.any fun z => PyData.eqv z d)
  | some d, some (.tuple ds) => gq (flD d && ds.all flD) (ds.any fun z => PyData.eqv z d)
  | _, _ => .bad
def kNin (Γ : List Sl) (x y : AV) : R Bool := (kIn Γ x y).bind fun z => .val (!z)
theorem flD_ok {K : PySem.W.Frag} {G : Rg} {H : Hp} {v : V} {p : PyData} (h : Dn K G H v p) (hf : flD p = true) : flatV v = true := by cases h <;> first | rfl | cases hf
theorem eqV_ok {K : PySem.W.Frag} {G : Rg} {H : Hp} {v u : V} {p q : PyData} (h : Dn K G H v p) (h' : Dn K G H u q) (hf : flD p = true) (hq : flD q = true) : eqV v u = PyData.eqv p q := by
  cases h <;> first | cases hf; done | (cases h' <;> first | cases hq; done | (simp [eqV, PyData.eqv]))
theorem inV_ok {K : PySem.W.Frag} {G : Rg} {H : Hp} {v : V} {p : PyData} (h : Dn K G H v p) (hf : flD p = true) : ∀ {vs : List V} {ds : List PyData}, DnA K G H vs ds → ds.all flD = true → vs.all flatV = true ∧ inV v vs = ds.any fun z => PyData.eqv z p
  | _, _, .nil, _ => ⟨rfl, rfl⟩
  | _, _, .cons q r, hq => by
    simp only [List.all_cons, Bool.and_eq_true] at hq
    obtain ⟨h1, h2⟩ := inV_ok h hf r hq.2
    refine ⟨by simp [h1, flD_ok q hq.1], ?_⟩
    unfold inV at h2 ⊢
    rw [List.any_cons, List.any_cons, h2, eqV_ok q h hq.1 hf]
theorem kIn_cases {G : Gh} {H : Hp} {σ : St} {Γ : List Sl} {x y : AV} {u v : V} (S : Sta X.K G H σ Γ) (hu : AVok X.K G H σ u x) (hv : AVok X.K G H σ v y) : kIn Γ x y = .bad ∨ ∃ z, kIn Γ x y = .val z ∧
    ((∃ d ds, Dp X.K H u d ∧ Dp X.K H v (.list ds) ∧ SeqAt.shaped d = true ∧ SeqAt.shaped (.list ds) = true ∧ z = ds.any fun z => PyData.eqv z d) ∨
     (∃ p xs, v = .ref p ∧ SqT X.K H p xs ∧ flatV u = true ∧ xs.all flatV = true ∧ z = inV u xs)) := by
  unfold kIn
  split
  · rename_i d ds h1 h2
    rcases gq_cases (SeqAt.shaped d && SeqAt.shaped (.list ds)) (ds.any fun z => PyData.eqv z d) with e | ⟨hc, e⟩
    · exact .inl e
    · rw [Bool.and_eq_true] at hc
      exact .inr ⟨_, e, .inl ⟨d, ds, ((rdD_ok h1).ok S hu).dps hc.1, ((rdD_ok h2).ok S hv).dps hc.2, hc.1, hc.2, rfl⟩⟩
  · rename_i d ds h1 h2
    rcases gq_cases (flD d && ds.all flD) (ds.any fun z => PyData.eqv z d) with e | ⟨hc, e⟩
    · exact .inl e
    · rw [Bool.and_eq_true] at hc
      obtain ⟨p, xs, rfl, g1, g2⟩ := dn_tuple ((rdD_ok h2).ok S hv)
      obtain ⟨q1, q2⟩ := inV_ok ((rdD_ok h1).ok S hu) hc.1 g2 hc.2
      exact .inr ⟨_, e, .inr ⟨p, xs, rfl, g1, flD_ok ((rdD_ok h1).ok S hu) hc.1, q1, q2.symm⟩⟩
  · exact .inl rfl
theorem ce_in (C : Cf0 X W sc N) (hu65 : X.A.units + 65 < cLine) (ha : CE X W a f) (hb : CE X W b g) (hm : behindInMarks .In b = false := by rfl) : CE X W (.Compare a [.In] [b] pos) (dCmp kIn f g) :=
  ce_cmp2 (fun x y Γ2 => boolR (kIn Γ2 x y) Γ2) (opR_or (op_inD hu65) op_in_seq) hm ha hb fun x y Γ2 G H σ u v Q S hu hv p => by
    rcases kIn_cases S hu hv with e | ⟨z, e, ⟨d, ds, h1, h2, h3, h4, rfl⟩ | ⟨q, xs, rfl, h1, h2, h3, rfl⟩⟩
    · rw [e] at p; exact p.elim
    · rw [e] at p; exact .inl ⟨d, ds, h1, h2, h3, h4, Pk.v p S (.bl _)⟩
    · rw [e] at p; exact .inr ⟨q, xs, rfl, .inr h1, h2, h3, Pk.v p S (.bl _)⟩
theorem ce_notin (C : Cf0 X W sc N) (hu65 : X.A.units + 65 < cLine) (ha : CE X W a f) (hb : CE X W b g) (hm : behindInMarks .NotIn b = false := by rfl) : CE X W (.Compare a [.NotIn] [b] pos) (dCmp kNin f g) :=
  ce_cmp2 (fun x y Γ2 => boolR (kNin Γ2 x y) Γ2) (opR_or (op_notInD hu65) op_notIn_seq) hm ha hb fun x y Γ2 G H σ u v Q S hu hv p => by
    unfold kNin at p
    rcases kIn_cases S hu hv with e | ⟨z, e, ⟨d, ds, h1, h2, h3, h4, rfl⟩ | ⟨q, xs, rfl, h1, h2, h3, rfl⟩⟩
    · rw [e] at p; exact p.elim
    · rw [e] at p; exact .inl ⟨d, ds, h1, h2, h3, h4, Pk.v p S (.bl _)⟩
    · rw [e] at p; exact .inr ⟨q, xs, rfl, .inr h1, h2, h3, Pk.v p S (.bl _)⟩
/-! ## tests -/
def asB : AV × List Sl → R (Bool × List Sl)
  | (.d _ (.bool z), Γ) => .val (z, Γ)
  | _ => .bad
def dTst (f : DF) : DT := fun Γ => (f Γ).bind asB
theorem ct_lift {f : DF} (ha : CE X W e f) (h1 : ∀ Γ (z : Bool) (fr : Bool) (Γ1 : List Sl), Ev X W Γ e (R.val ()) (fun _ => .d fr (.bool z)) (fun _ => Γ1) → EvT X W Γ e (R.val ()) (fun _ => z) (fun _ => Γ1))
    (h2 : ∀ Γ x, Ev X W Γ e (.exc x : R Unit) (fun _ => .d true (.bool true)) (fun _ => Γ) → EvT X W Γ e (.exc x : R Unit) (fun _ => true) (fun _ => Γ)) : CT X W e (dTst f) := fun Γ => by
  have h := ha Γ
  unfold dTst
  cases hf : f Γ with
  | bad => exact evt_bad
  | exc x =>
    rw [hf] at h
    exact pt_imp (h2 Γ x (Ev.exc h)) fun σ H Q ⟨G, S, p⟩ => ⟨G, S, p⟩
  | val z =>
    rw [hf] at h
    obtain ⟨y, Γ1⟩ := z
    show EvT X W Γ e (asB (y, Γ1)) _ _
    unfold asB
    split
    · rename_i hz
      cases hz
      exact h1 Γ _ _ _ h
    · exact evt_bad
theorem ct_of (ha : CE X W e f) (he : ∀ whole, isTrue e X.env whole = (do let v ← whole; standAt e.pos; holding [v] (truthy v)) := by intro _; rfl) : CT X W e (dTst f) := ct_lift ha (fun Γ z fr Γ1 h => Ev.tst h he) (fun Γ x h => Ev.tst h he)
theorem ct_cmp {op : CmpOp} (ha : CE X W (.Compare a [op] [b] pos) f) (hm : behindInMarks op b = false := by first | exact nobehind _ (by decide) (by decide) | rfl) : CT X W (.Compare a [op] [b] pos) (dTst f) := ct_lift ha (fun Γ z fr Γ1 h => Ev.tstC h hm) (fun Γ x h => Ev.tstC h hm)
def dTnot (f : DT) : DT := fun Γ => (f Γ).bind fun z => .val (!z.1, z.2)
theorem EvT.map {Γ : List Sl} {τ τ' : Type} {m : R τ} {k : τ → τ'} {av : τ' → Bool} {Γ' : τ' → List Sl} (h : EvT X W Γ e m (fun r => av (k r)) (fun r => Γ' (k r))) : EvT X W Γ e (m.bind fun r => .val (k r)) av Γ' :=
  pt_imp h fun σ H Q ⟨G, S, p⟩ => ⟨G, S, by cases m <;> exact p⟩
theorem ct_not {f : DT} (ha : CT X W a f) : CT X W (.UnaryOp .Not a pos) (dTnot f) := fun Γ => EvT.map (evt_notM (ha Γ))
theorem ct_w {f : DT} (h : CW X W e f) : CT X W e f := fun Γ => (h Γ).t
variable {rest : List Expr}
theorem cw_or1 {f : DT} (h : CT X W a f) : CW X W (.BoolOp .Or [a] pos) f := fun Γ => evw_orM1 (h Γ)
theorem cw_and1 {f : DT} (h : CT X W a f) : CW X W (.BoolOp .And [a] pos) f := fun Γ => evw_andM1 (h Γ)
def dTor (f g : DT) : DT := fun Γ => (f Γ).bind fun x => if x.1 then .val (true, x.2) else (g x.2).bind fun y => .val y
def dTand (f g : DT) : DT := fun Γ => (f Γ).bind fun x => if x.1 then (g x.2).bind fun y => .val y else .val (false, x.2)
theorem cw_or {f g : DT} (ha : CT X W a f) (hb : CW X W (.BoolOp .Or (b :: rest) pos) g) : CW X W (.BoolOp .Or (a :: b :: rest) pos) (dTor f g) := fun Γ => evw_orM (ha Γ) (fun x => hb x.2) (fun x => (true, x.2)) (fun _ y => y)
theorem cw_and {f g : DT} (ha : CT X W a f) (hb : CW X W (.BoolOp .And (b :: rest) pos) g) : CW X W (.BoolOp .And (a :: b :: rest) pos) (dTand f g) := fun Γ => evw_andM (ha Γ) (fun x => hb x.2) (fun x => (false, x.2)) (fun _ y => y)
end
section
variable {X : Cx} {W : WX} {sc : Scope} {N : List Str} {a b c e : Expr} {es : List Expr} {pos p : Pos} {f g : DF} {k : DA}
/-! ## truths as values -/
theorem ce_one {op : BoolOp} (ha : CE X W a f) : CE X W (.BoolOp op [a] pos) f := fun Γ => evv_oneM (ha Γ)
variable {rest : List Expr}
def dAnd (f g : DF) : DF := fun Γ => (f Γ).bind fun x => (asB x).bind fun u => if u.1 then (g u.2).bind fun y => (asB y).bind fun z => .val (.d true (.bool z.1), z.2) else .val (.d true (.bool false), u.2)
def dOr (f g : DF) : DF := fun Γ => (f Γ).bind fun x => (asB x).bind fun u => if u.1 then .val (.d true (.bool true), u.2) else (g u.2).bind fun y => (asB y).bind fun z => .val (.d true (.bool z.1), z.2)
theorem ce_and (ha : CE X W a f) (hb : CE X W (.BoolOp .And (b :: rest) pos) g) : CE X W (.BoolOp .And (a :: b :: rest) pos) (dAnd f g) := fun Γ =>
  pe_imp (pe_and (ha Γ) (pe_any fun Γ1 => hb Γ1)) fun σ H Q ⟨G, S, q⟩ => ⟨G, S, (Pst.bind q).imp fun x G1 H1 e1 p1 v S1 hv => by
    obtain ⟨x, Γ1⟩ := x
    unfold asB at p1
    split at p1
    · rename_i z Γ2 hz
      cases hz
      refine ⟨_, dn_bool hv, ?_⟩
      have p1 : Pst X W G1 H1 σ (if z then (g Γ1).bind fun y => (asB y).bind fun z => .val (.d true (.bool z.1), z.2) else .val (.d true (.bool false), Γ1)) (fun r G' H' => ∀ w, Sta X.K G' H' σ r.2 → AVok X.K G' H' σ w r.1 → Q w H') := p1
      cases z with
      | false => exact itF (p1 G1 H1 (Ext.rf S1.w) _ S1 (.bl _))
      | true =>
        refine itT ⟨Γ1, G1, S1, (Pst.bind p1).imp fun y G2 H2 e2 p2 w S2 hw => ?_⟩
        obtain ⟨y, Γ2⟩ := y
        unfold asB at p2
        split at p2
        · rename_i hz
          cases hz
          have hw : Dn X.K _ H2 w (.bool _) := hw
          rw [dn_bool hw]
          exact p2 G2 H2 (Ext.rf S2.w) _ S2 (.bl _)
        · exact p2.elim
    · exact p1.elim⟩
theorem ce_or (ha : CE X W a f) (hb : CE X W (.BoolOp .Or (b :: rest) pos) g) : CE X W (.BoolOp .Or (a :: b :: rest) pos) (dOr f g) := fun Γ =>
  pe_imp (pe_or (ha Γ) (pe_any fun Γ1 => hb Γ1)) fun σ H Q ⟨G, S, q⟩ => ⟨G, S, (Pst.bind q).imp fun x G1 H1 e1 p1 v S1 hv => by
    obtain ⟨x, Γ1⟩ := x
    unfold asB at p1
    split at p1
    · rename_i z Γ2 hz
      cases hz
      refine ⟨_, dn_bool hv, ?_⟩
      have p1 : Pst X W G1 H1 σ (if z then .val (.d true (.bool true), Γ1) else (g Γ1).bind fun y => (asB y).bind fun z => .val (.d true (.bool z.1), z.2)) (fun r G' H' => ∀ w, Sta X.K G' H' σ r.2 → AVok X.K G' H' σ w r.1 → Q w H') := p1
      cases z with
      | true => exact itT (p1 G1 H1 (Ext.rf S1.w) _ S1 (.bl _))
      | false =>
        refine itF ⟨Γ1, G1, S1, (Pst.bind p1).imp fun y G2 H2 e2 p2 w S2 hw => ?_⟩
        obtain ⟨y, Γ2⟩ := y
        unfold asB at p2
        split at p2
        · rename_i hz
          cases hz
          have hw : Dn X.K _ H2 w (.bool _) := hw
          rw [dn_bool hw]
          exact p2 G2 H2 (Ext.rf S2.w) _ S2 (.bl _)
        · exact p2.elim
    · exact p1.elim⟩
def dNot (f : DF) : DF := fun Γ => (f Γ).bind fun x => (asB x).bind fun u => .val (.d true (.bool (!u.1)), u.2)
theorem ce_not (ha : CE X W a f) : CE X W (.UnaryOp .Not a pos) (dNot f) := fun Γ =>
  pe_imp (pe_not (ha Γ)) fun σ H Q ⟨G, S, q⟩ => ⟨G, S, (Pst.bind q).imp fun x G1 H1 e1 p1 v S1 hv => by
    obtain ⟨x, Γ1⟩ := x
    unfold asB at p1
    split at p1
    · rename_i z Γ2 hz
      cases hz
      exact ⟨_, dn_bool hv, p1 G1 H1 (Ext.rf S1.w) _ S1 (.bl _)⟩
    · exact p1.elim⟩
def dIf (c : DT) (f g : DF) : DF := fun Γ => (c Γ).bind fun x => if x.1 then f x.2 else g x.2
theorem ce_ife {h : DT} (hc : CT X W c h) (ha : CE X W a f) (hb : CE X W b g) : CE X W (.IfExp c a b pos) (dIf h f g) := fun Γ => ev_ife (hc Γ) (fun x => ha x.2) (fun x => hb x.2)
/-! ## arguments, displays -/
def dA0 : DA := fun Γ => .val ([], Γ)
def dAc (f : DF) (k : DA) : DA := fun Γ => (f Γ).bind fun x => (k x.2).bind fun y => .val (x.1 :: y.1, y.2)
theorem ca_nil : CA X W [] dA0 := fun Γ => eva_nil (W := W)
theorem ca_cons (ha : CE X W e f) (hb : CA X W es k) (hst : starEach (e :: es) X.env = (false, eval e X.env) :: starEach es X.env := by rfl) : CA X W (e :: es) (dAc f k) := fun Γ => eva_cons (as := Prod.fst) (Γk := Prod.snd) (fun (x : AV × List Sl) (y : List AV × List Sl) => (x.1 :: y.1, y.2)) (ha Γ) (fun x => hb x.2) (fun _ _ => rfl) (fun _ _ => rfl) hst
/-- a list of one's own is given away -/
def frzA : AV × List Sl → R (AV × List Sl)
  | (.d true d, Γ) => .val (.d true d, Γ)
  | (.d false d, Γ) => .val (.d (flat d) d, Γ)
  | (.s i, Γ) => match Γ[i]? with
    | some (.own (.lst es)) => .val (.d true (.list es), Γ.set i (.dat true (.list es)))
    | _ => .bad
def dFrz (f : DF) : DF := fun Γ => (f Γ).bind frzA
theorem Pk.ext {G G' : Gh} {H H' : Hp} {σ : St} {m : R (AV × List Sl)} {Q : VK} (h : Pk X W G H σ m Q) (e : Ext G H G' H') : Pk X W G' H' σ m Q := Pst.ext h e
theorem frz_ok {G : Gh} {H : Hp} {σ : St} {x : AV} {Γ : List Sl} {v : V} {Q : VK} (S : Sta X.K G H σ Γ) (hv : AVok X.K G H σ v x) (p : Pk X W G H σ (frzA (x, Γ)) Q) : Q v H := by
  unfold frzA at p
  split at p
  · rename_i hz; cases hz; exact Pk.v p S hv
  · rename_i d Γ2 hz
    cases hz
    refine Pk.v p S ?_
    cases hf : flat d with
    | false => exact hv
    | true => exact Dn.free hv hf
  · rename_i i Γ2 hz
    cases hz
    split at p
    · rename_i ds hi
      obtain ⟨A, T⟩ := id S
      obtain ⟨G2, S2, e2⟩ := S.freeze i hi
      have h2 : (Γ.set i (.dat true (.list ds)))[i]? = some (.dat true (.list ds)) := set_at (List.getElem?_eq_some_iff.mp hi).1
      obtain ⟨A2, T2⟩ := id S2
      obtain ⟨_, w, g1, g2⟩ := T2.sl i _ h2
      have hv : σ[i]? = some (some v) := hv
      rw [hv] at g1
      cases g1
      exact Pk.v' p e2 S2 g2
    · exact p.elim
theorem ce_frz (ha : CE X W e f) : CE X W e (dFrz f) := fun Γ =>
  pe_imp (ha Γ) fun σ H Q ⟨G, S, q⟩ => ⟨G, S, (Pst.bind q).imp fun x G1 H1 e1 p1 v S1 hv => frz_ok (x := x.1) (Γ := x.2) S1 hv p1⟩
def avD : AV → Option PyData
  | .d true d => some d
  | _ => none
def allT : List AV → Option (List PyData)
  | [] => some []
  | .d true d :: as => (allT as).map (d :: ·)
  | _ => none
def allF : List AV → Option (List PyData × Bool)
  | [] => some ([], true)
  | .d fr d :: as => (allF as).map fun z => (d :: z.1, fr && z.2)
  | _ => none
theorem allT_ok {K : PySem.W.Frag} {G : Gh} {H : Hp} {σ : St} : ∀ {as : List AV} {ds : List PyData} {vs : List V}, allT as = some ds → AVs K G H σ vs as → DnA K (rg G true) H vs ds
  | [], _, _, h, .nil => by cases h; exact .nil
  | .d true d :: as, ds, _, h, .cons q r => by
    unfold allT at h
    cases e : allT as with
    | none => rw [e] at h; cases h
    | some xs => rw [e] at h; cases h; exact .cons q (allT_ok e r)
  | .d false d :: as, ds, _, h, _ => by cases h
  | .s i :: as, ds, _, h, _ => by cases h
theorem allF_ok {K : PySem.W.Frag} {G : Gh} {H : Hp} {σ : St} : ∀ {as : List AV} {z : List PyData × Bool} {vs : List V}, allF as = some z → AVs K G H σ vs as → DnA K (rg G z.2) H vs z.1
  | [], _, _, h, .nil => by cases h; exact .nil
  | .d fr d :: as, ds, _, h, .cons q r => by
    unfold allF at h
    cases e : allF as with
    | none => rw [e] at h; cases h
    | some xs =>
      rw [e] at h
      cases h
      exact .cons (Dn.mono (rg_and1 G fr xs.2) (TupLe.rf _) q) ((allF_ok e r).mono (rg_and2 G fr xs.2) (TupLe.rf _))
  | .s i :: as, ds, _, h, _ => by cases h
def dLst (k : DA) : DN := fun Γ => (k Γ).bind fun z => match allT z.1 with
  | some ds => gq (szB z.1) (ds, z.2)
  | none => .bad
theorem cn_lst (ha : CA X W es k) : CN X W (.List es pos) (dLst k) := fun Γ =>
  pe_imp (pe_lst (ha Γ)) fun σ H Q ⟨G, S, q⟩ => ⟨G, S, (Pst.bind q).imp fun x G1 H1 e1 p1 vs S1 av => by
    split at p1
    · rename_i ds hd
      rcases gq_cases (szB x.1) (ds, x.2) with e | ⟨hc, e⟩
      · rw [e] at p1; exact p1.elim
      · rw [e] at p1
        exact ⟨by rw [av.len]; exact of_decide_eq_true hc, fun q hq => p1 G1 H1 (Ext.rf S1.w) q vs S1 hq (allT_ok hd av)⟩
    · exact p1.elim⟩
def dTup (k : DA) : DF := fun Γ => (k Γ).bind fun z => match allF z.1 with
  | some ds => gq (szB z.1) (.d ds.2 (.tuple ds.1), z.2)
  | none => .bad
theorem ce_tup {kk : Nat} (ha : CA X W es k) : CE X W (.Tuple es kk pos) (dTup k) := fun Γ =>
  pe_imp (pe_tup (ha Γ)) fun σ H Q ⟨G, S, q⟩ => ⟨G, S, (Pst.bind q).imp fun x G1 H1 e1 p1 vs S1 av => by
    split at p1
    · rename_i ds hd
      rcases gq_cases (szB x.1) (AV.d ds.2 (.tuple ds.1), x.2) with e | ⟨hc, e⟩
      · rw [e] at p1; exact p1.elim
      · rw [e] at p1
        refine ⟨by rw [av.len]; exact of_decide_eq_true hc, fun q hq => ?_⟩
        obtain ⟨G2, S2, e2, h2⟩ := S1.newTup hq (allF_ok hd av)
        exact p1 G2 _ e2 _ S2 h2
    · exact p1.elim⟩
/-- a new list as data -/
def dOfN (n : DN) : DF := fun Γ => (n Γ).bind fun z => .val (.d true (.list z.1), z.2)
theorem ce_ofN {n : DN} (h : CN X W e n) : CE X W e (dOfN n) := fun Γ => Ev.map (k := fun z : List PyData × List Sl => (AV.d true (.list z.1), z.2)) (EvF.ev (h Γ))
/-! ## subscripts -/
def ixA (Γ : List Sl) (x y : AV) : R AV := match x, y with
  | .d fr (.list ds), .d _ (.int i) => (R.ofO (atI ds i)).bind fun d => .val (.d fr d)
  | .d fr (.tuple ds), .d _ (.int i) => (R.ofO (atI ds i)).bind fun d => .val (.d fr d)
  | .s j, .d _ (.int i) => match rdD Γ (.s j) with
    | some (.list ds) => (R.ofO (atI ds i)).bind fun d => .val (.d true d)
    | _ => .bad
  | _, _ => .bad
def dIx (f g : DF) : DF := fun Γ => (f Γ).bind fun x => (g x.2).bind fun y => (ixA y.2 x.1 y.1).bind fun z => .val (z, y.2)
theorem Sta.slotL {K : PySem.W.Frag} {G : Gh} {H : Hp} {σ : St} {Γ : List Sl} {j : Nat} {ds : List PyData} {u : V} (S : Sta K G H σ Γ) (h : rdD Γ (.s j) = some (.list ds)) (hu : σ[j]? = some (some u)) : ∃ p vs, u = .ref p ∧ H p = some (.lst vs) ∧ DnA K (rg G true) H vs ds := by
  have hg : Γ[j]? = some (.own (.lst ds)) ∨ Γ[j]? = some (.io (.lst ds)) := by
    unfold rdD at h
    simp only at h
    split at h
    · cases h; exact .inl ‹_›
    · cases h; exact .inr ‹_›
    · cases h
  have : ∃ p vs, σ[j]? = some (some (.ref p)) ∧ H p = some (.lst vs) ∧ DnA K (rg G true) H vs ds := by
    rcases hg with hg | hg
    · obtain ⟨p, vs, q1, q2, q3, _⟩ := S.change j hg
      exact ⟨p, vs, q1, q2, q3⟩
    · obtain ⟨p, vs, q1, q2, q3, _⟩ := S.changeIo j hg
      exact ⟨p, vs, q1, q2, q3⟩
  obtain ⟨p, vs, q1, q2, q3⟩ := this
  rw [q1] at hu
  cases hu
  exact ⟨p, vs, rfl, q2, q3⟩
theorem ce_ix (ha : CE X W a f) (hb : CE X W b g) (hs : PlainIx b := by exact fun _ _ => rfl) : CE X W (.Subscript a b pos) (dIx f g) := fun Γ =>
  pe_imp (pe_ix ix_seq (ha Γ) (pe_any fun x : AV × List Sl => hb x.2) hs) fun σ H Q h => bin_rd (X := X) (W := W) (ava := Prod.fst) (Γa := Prod.snd) (avb := fun _ (y : AV × List Sl) => y.1) (Γb := fun _ (y : AV × List Sl) => y.2) (avk := Prod.fst) (Γk := Prod.snd) (k := fun (x : AV × List Sl) (y : AV × List Sl) => (ixA y.2 x.1 y.1).bind fun z => .val (z, y.2)) (fun x y G H σ u v Q S hu hv p => by
    obtain ⟨x, Γ1⟩ := x
    obtain ⟨y, Γ2⟩ := y
    simp only at hu hv S p
    unfold ixA at p
    split at p
    · rename_i fr ds _ i
      cases hz : atI ds i with
      | none => rw [hz] at p; exact p.elim
      | some d =>
        rw [hz] at p
        obtain ⟨q, xs, rfl, g1, g2⟩ := dn_list hu
        obtain ⟨w, g3, g4⟩ := atI_dn g2 hz
        exact .inl ⟨q, xs, i, w, rfl, dn_int hv, (g1.mono (S.w.rgl fr)).sq, g3, p G H (Ext.rf S.w) w S g4⟩
    · rename_i fr ds _ i
      cases hz : atI ds i with
      | none => rw [hz] at p; exact p.elim
      | some d =>
        rw [hz] at p
        obtain ⟨q, xs, rfl, g1, g2⟩ := dn_tuple hu
        obtain ⟨w, g3, g4⟩ := atI_dn g2 hz
        exact .inr (.inl ⟨q, xs, i, w, rfl, dn_int hv, g1, g3, p G H (Ext.rf S.w) w S g4⟩)
    · rename_i j _ i
      split at p
      · rename_i ds hd
        cases hz : atI ds i with
        | none => rw [hz] at p; exact p.elim
        | some d =>
          rw [hz] at p
          obtain ⟨q, xs, rfl, g1, g2⟩ := S.slotL hd hu
          obtain ⟨w, g3, g4⟩ := atI_dn g2 hz
          exact .inl ⟨q, xs, i, w, rfl, dn_int hv, SqL.of g1, g3, p G H (Ext.rf S.w) w S g4⟩
      · exact p.elim
    · exact p.elim) h
end
end PD


set_option Elab.async false
set_option linter.all false
set_option maxRecDepth 100000
set_option maxHeartbeats 4000000
set_option autoImplicit false
namespace PD
open PySem L2
/-! ## new cells -/
def NewC (K : PySem.W.Frag) (G : Rg) (H : Hp) (c : Cl) (v : V) (H' : Hp) : Prop := ∃ fp : List Addr, (∀ a, a ∉ fp → H' a = H a) ∧ (∀ p ∈ fp, H p = none ∧ H' p ≠ none) ∧ c.ok K G H' v fp
theorem newc_lst {K : PySem.W.Frag} {G : Rg} {H : Hp} {p : Addr} {vs : List V} {ds : List PyData} (hp : H p = none) (hd : DnA K G H vs ds) : NewC K G H (.lst ds) (.ref p) (upd H p (.lst vs)) :=
  ⟨[p], fun a h => upd_ne (by simpa using h), fun q hq => by
    have : q = p := by simpa using hq
    subst this
    exact ⟨hp, by rw [upd_same]; simp⟩, p, vs, rfl, rfl, upd_same, hd.mono (fun _ _ z => z) (tup_upd hp)⟩
theorem newc_dic {K : PySem.W.Frag} {G : Rg} {H : Hp} {p : Addr} {o : HO} {t : Dk} {vs : List V} {kvs : List (PyData × PyData)} (hp : H p = none) (ho : DcO t o (kvs.map (·.1)) vs) (hd : DnA K G H vs (kvs.map (·.2))) : NewC K G H (.dic t kvs) (.ref p) (upd H p o) :=
  ⟨[p], fun a h => upd_ne (by simpa using h), fun q hq => by
    have : q = p := by simpa using hq
    subst this
    exact ⟨hp, by rw [upd_same]; simp⟩, p, o, vs, rfl, rfl, upd_same, ho, hd.mono (fun _ _ z => z) (tup_upd hp)⟩
theorem NewC.grow {K : PySem.W.Frag} {G : Gh} {H H' : Hp} {R' : Rg} {c : Cl} {v : V} (w : Wf G H) {fp : List Addr} (h1 : ∀ a, a ∉ fp → H' a = H a) (h2 : ∀ p ∈ fp, H p = none ∧ H' p ≠ none) : Grow G H G.N H' [] := by
  have k : ∀ a o, H a = some o → H' a = some o := fun a o h => by
    rw [h1 a fun hp => by rw [(h2 a hp).1] at h; cases h]
    exact h
  exact ⟨fun a o h _ => k a o h, fun _ h => absurd h (by simp), fun a xs h => k _ _ h, fun _ _ h => h, fun a o h => ⟨k _ _ (w.new a o h).1, .inl h⟩⟩
/-- a slot gets a new cell of its own -/
theorem Sta.putC {K : PySem.W.Frag} {G : Gh} {H H' : Hp} {σ : St} {Γ : List Sl} {c : Cl} {v : V} (s : Sta K G H σ Γ) (i : Nat) (h : NewC K (rg G true) H c v H') : Sta K G H' (σ.set i (some v)) (Γ.set i (.own c)) ∧ Ext G H G H' := by
  obtain ⟨A, S⟩ := s
  obtain ⟨fp, h1, h2, h3⟩ := h
  refine S.step (i := i) (fp' := fp) (NewC.grow (K := K) (R' := rg G true) (c := c) (v := v) S.w h1 h2) (fun p hp => absurd hp (by simp)) (fun j hj => List.getElem?_set_ne (Ne.symm hj)) (List.length_set ..) (fun hlt => ⟨v, ?_, fun q hq => ?_, h3⟩) (fun q hq => ?_)
  · exact set_at (by rw [← S.len]; exact hlt)
  · exact (S.w.fresh (h2 q hq).1).2.1
  · exact ⟨(h2 q hq).2, (S.w.fresh (h2 q hq).1).1, .inr (h2 q hq).1⟩
theorem Cl.nt {K : PySem.W.Frag} {G : Rg} {H : Hp} {v : V} {fp : List Addr} {c : Cl} (h : c.ok K G H v fp) : ∀ p ∈ fp, ∃ o, H p = some o ∧ (∀ xs, o ≠ .tup xs) ∧ ∀ x y, o ≠ .frz x y := by
  cases c with
  | lst ds =>
    obtain ⟨p, vs, rfl, rfl, h1, h2⟩ := h
    intro q hq
    have : q = p := by simpa using hq
    subst this
    exact ⟨_, h1, fun _ z => (nomatch z), fun _ _ z => (nomatch z)⟩
  | dic t kvs =>
    obtain ⟨p, o, vs, rfl, rfl, h1, h2, h3⟩ := h
    intro q hq
    have : q = p := by simpa using hq
    subst this
    cases t with
    | k => obtain ⟨_, rfl, _⟩ := h2; exact ⟨_, h1, fun _ z => (nomatch z), fun _ _ z => (nomatch z)⟩
    | t => obtain ⟨_, rfl, _⟩ := h2; exact ⟨_, h1, fun _ z => (nomatch z), fun _ _ z => (nomatch z)⟩
  | feed f =>
    obtain ⟨d, l, rfl, rfl, h3, h4, h5⟩ := h
    intro q hq
    simp only [List.mem_cons, List.not_mem_nil, or_false] at hq
    rcases hq with rfl | rfl
    · exact ⟨_, h4, fun _ z => (nomatch z), fun _ _ z => (nomatch z)⟩
    · exact ⟨_, h5, fun _ z => (nomatch z), fun _ _ z => (nomatch z)⟩
/-- a cell of one's own is given away -/
theorem Sta.releaseC {K : PySem.W.Frag} {G : Gh} {H : Hp} {σ : St} {Γ : List Sl} {c : Cl} (s : Sta K G H σ Γ) (i : Nat) (hi : Γ[i]? = some (.own c)) :
    ∃ v H', σ[i]? = some (some v) ∧ Sta K G H' σ (Γ.set i .un) ∧ Ext G H G H' ∧ NewC K (rg G true) H' c v H := by
  obtain ⟨A, S⟩ := s
  obtain ⟨v, h1, h0, hc⟩ := S.sl i _ hi
  have nt := Cl.nt hc
  let H' : Hp := fun a => if a ∈ A i then none else H a
  have hne : ∀ a, a ∉ A i → H' a = H a := fun a h => if_neg h
  have hin : ∀ a, a ∈ A i → H' a = none := fun a h => if_pos h
  have nA : ∀ j, j ≠ i → ∀ p, p ∈ A j → p ∉ A i := fun j hj p h h' => hj (S.dj j i p h h')
  have t : TupLe H H' := fun a xs h => by
    rw [hne a fun z => by obtain ⟨o, e, q, _⟩ := nt a z; rw [e] at h; exact q xs (Option.some.inj h)]
    exact h
  have w : Wf G H' := by
    refine ⟨fun a u h h2 => ?_, fun a u h => ?_, fun a h => ?_, S.w.p0, fun a u h => ?_⟩
    · rw [hne a fun z => by rw [h0 a z] at h; cases h]
      exact S.w.keep a u h h2
    · rw [hne a fun z => by rw [(S.al i a z).2.1] at h; cases h]
      exact S.w.new a u h
    · rw [hne a fun z => S.w.p0 a h (h0 a z)]
      exact S.w.pal a h
    · rw [hne a fun z => by rw [S.ae i a z] at h; cases h]
      exact S.w.ex a u h
  have e : Ext G H G H' := ⟨rfl, rfl, rfl, rfl, fun _ _ h => h, fun _ _ h => .inl h, t, w⟩
  refine ⟨v, H', h1, ⟨fun j => if j = i then [] else A j, w, by rw [List.length_set]; exact S.len, fun j s h => ?_, fun j q h => ?_, fun j q h => ?_, fun j k q h h2 => ?_⟩, e, A i, fun a h => (hne a h).symm, fun p hp => ⟨hin p hp, (S.al i p hp).1⟩, hc⟩
  · by_cases hj : j = i
    · subst hj
      rw [List.getElem?_set_self (List.getElem?_eq_some_iff.mp hi).1] at h
      cases h
      show (if j = j then [] else A j) = []
      rw [if_pos rfl]
    · rw [List.getElem?_set_ne (Ne.symm hj)] at h
      show SlOk K G H' j σ[j]? (if j = i then [] else A j) s
      rw [if_neg hj]
      exact (S.sl j s h).mono e fun a ha => hne a (nA j hj a ha)
  · by_cases hj : j = i
    · rw [if_pos hj] at h; cases h
    · rw [if_neg hj] at h
      exact ⟨by rw [hne q (nA j hj q h)]; exact (S.al j q h).1, (S.al j q h).2⟩
  · by_cases hj : j = i
    · rw [if_pos hj] at h; cases h
    · rw [if_neg hj] at h
      exact S.ae j q h
  · by_cases hj : j = i
    · rw [if_pos hj] at h; cases h
    · by_cases hk : k = i
      · rw [if_pos hk] at h2; cases h2
      · rw [if_neg hj] at h
        rw [if_neg hk] at h2
        exact S.dj j k q h h2
/-- what is new is frozen at once -/
def frzC : Cl → Option PyData
  | .lst ds => some (.list ds)
  | .dic _ _ => none
  | .feed _ => none
theorem NewC.frz {K : PySem.W.Frag} {G : Gh} {H H' : Hp} {σ : St} {Γ : List Sl} {c : Cl} {v : V} {d : PyData} (S : Sta K G H σ Γ) (h : NewC K (rg G true) H c v H') (hd : frzC c = some d) :
    ∃ G', Sta K G' H' σ Γ ∧ Ext G H G' H' ∧ Dn K (rg G' true) H' v d := by
  have key : ∀ p o, (∀ a, a ∉ [p] → H' a = H a) → H p = none → H' p = some o → ∃ G', Sta K G' H' σ Γ ∧ Ext G H G' H' ∧ RgLe (rg G true) (rg G' true) ∧ rg G' true p o := fun p o h1 hp ho => by
    have e : H' = upd H p o := by
      funext a
      by_cases q : a = p
      · subst q; rw [upd_same]; exact ho
      · rw [upd_ne q]; exact h1 a (by simpa using q)
    subst e
    obtain ⟨S2, e2⟩ := S.grow (grow_new (o := o) S.w hp)
    exact ⟨_, S2, e2, e2.n, upd_same⟩
  obtain ⟨fp, h1, h2, h3⟩ := h
  cases c with
  | lst ds =>
    cases hd
    obtain ⟨p, vs, rfl, rfl, g1, g2⟩ := h3
    obtain ⟨G', S', e', l, q⟩ := key p _ h1 (h2 p (by simp)).1 g1
    exact ⟨G', S', e', .lst (.inl q) (g2.mono l (TupLe.rf _))⟩
  | dic t kvs => cases hd
  | feed f => cases hd
/-- a cell of one's own is frozen -/
theorem Sta.freezeC {K : PySem.W.Frag} {G : Gh} {H : Hp} {σ : St} {Γ : List Sl} {c : Cl} {d : PyData} (s : Sta K G H σ Γ) (i : Nat) (hi : Γ[i]? = some (.own c)) (hd : frzC c = some d) : ∃ G', Sta K G' H σ (Γ.set i (.dat true d)) ∧ Ext G H G' H := by
  obtain ⟨v, H', h1, S1, e1, n⟩ := s.releaseC i hi
  obtain ⟨G', S2, e2, d2⟩ := n.frz S1 hd
  have S3 := S2.put i d2
  have hs : σ.set i (some v) = σ := by
    apply List.ext_getElem?
    intro j
    by_cases hj : j = i
    · subst hj
      have hl : j < σ.length := (List.getElem?_eq_some_iff.mp h1).1
      rw [List.getElem?_set_self hl, h1]
    · rw [List.getElem?_set_ne (Ne.symm hj)]
  rw [hs, List.set_set] at S3
  exact ⟨G', S3, ⟨e2.h0, e2.p, e2.i, e2.e, e2.n, e2.nn, TupLe.rf _, S3.w⟩⟩
/-! ## judgements: new cells, statements -/
abbrev DC := List Sl → R (Cl × List Sl)
inductive Rs where
  | d (x : PyData)
  | c (x : Cl)
inductive Fw where
  | nx
  | bk
  | ct
  | rt (r : Rs)
abbrev DS := List Sl → R (Fw × List Sl)
def rdC (X : Cx) (W : WX) (Γ : List Sl) (m : R (Cl × List Sl)) : TE := fun σ H Q => ∃ G, Sta X.K G H σ Γ ∧ Pst X W G H σ m fun r G' H' => ∀ v H2, Sta X.K G' H' σ r.2 → NewC X.K (rg G' true) H' r.1 v H2 → Q v H2
def CC (X : Cx) (W : WX) (e : Expr) (f : DC) : Prop := ∀ Γ, PE X e (rdC X W Γ (f Γ))
def FinU (K : PySem.W.Frag) (G : Gh) (H : Hp) (D : Ends) (Γ : List Sl) : Fw → Prop
  | .nx => ∀ σ, Sta K G H σ Γ → D.nx σ H
  | .bk => ∀ σ, Sta K G H σ Γ → D.bk σ H
  | .ct => ∀ σ, Sta K G H σ Γ → D.ct σ H
  | .rt (.d x) => ∀ σ v, Sta K G H σ Γ → Dn K (rg G true) H v x → D.rt v H
  | .rt (.c c) => ∀ σ v H2, Sta K G H σ Γ → NewC K (rg G true) H c v H2 → D.rt v H2
def rdB (X : Cx) (W : WX) (Γ : List Sl) (m : R (Fw × List Sl)) : TS := fun D σ H => ∃ G, Sta X.K G H σ Γ ∧ Pst X W G H σ m fun z G' H' => FinU X.K G' H' D z.2 z.1
def C1 (X : Cx) (W : WX) (s : Stmt) (f : DS) : Prop := ∀ Γ, PS X s (rdB X W Γ (f Γ))
def CS (X : Cx) (W : WX) (ss : List Stmt) (f : DS) : Prop := ∀ Γ, PSs X ss (rdB X W Γ (f Γ))
theorem ps_imp {X : Cx} {s : Stmt} {t t' : TS} (h : PS X s t) (k : ∀ D σ H, t' D σ H → t D σ H) : PS X s t' := ⟨fun pins s σ H D I z => h.run pins s σ H D I (k D σ H z)⟩
theorem pss_imp {X : Cx} {s : List Stmt} {t t' : TS} (h : PSs X s t) (k : ∀ D σ H, t' D σ H → t D σ H) : PSs X s t' := ⟨fun pins s σ H D I z => h.run pins s σ H D I (k D σ H z)⟩
theorem pss_any {X : Cx} {s : List Stmt} {α : Type} {t : α → TS} (h : ∀ x, PSs X s (t x)) : PSs X s (fun D σ H => ∃ x, t x D σ H) := ⟨fun pins s σ H D I ⟨x, z⟩ => (h x).run pins s σ H D I z⟩
def wipeG (Γ : List Sl) : List Nat → List Sl
  | [] => Γ
  | i :: is => (wipeG Γ is).set i .un
theorem Sta.wipe {K : PySem.W.Frag} {G : Gh} {H : Hp} {σ : St} {Γ : List Sl} (s : Sta K G H σ Γ) : ∀ is : List Nat, Sta K G H σ (wipeG Γ is)
  | [] => s
  | i :: is => (Sta.wipe s is).forget i
theorem pg_imp {X : Cx} {tg : Expr} {t t' : TG} (h : PG X tg t) (k : ∀ v σ H Q, t' v σ H Q → t v σ H Q) : PG X tg t' := ⟨fun pins s σ H v u Q I r z => h.run pins s σ H v u Q I r (k v σ H Q z)⟩
structure ItD (K : PySem.W.Frag) (G : Gh) (H : Hp) (J : It) (ds : List PyData) (fr : Bool) : Prop where
  go : ∀ i G2 H2, i < ds.length → Le G H G2 H2 → J.go i H2
  yl : ∀ i G2 H2 σ Γ v H3, i < ds.length → Le G H G2 H2 → Sta K G2 H2 σ Γ → J.yld i H2 v H3 → ∃ G3 d, ds[i]? = some d ∧ Ext G2 H2 G3 H3 ∧ Sta K G3 H3 σ Γ ∧ Dn K (rg G3 fr) H3 v d
  st : ∀ G2 H2, Le G H G2 H2 → J.stop ds.length H2
theorem pi_imp {X : Cx} {tg it : Expr} {t t' : TI} (h : PI X tg it t) (k : ∀ σ H Q, t' σ H Q → t σ H Q) : PI X tg it t' := ⟨fun pins s σ H Q I z => h.run pins s σ H Q I (k σ H Q z)⟩
theorem Cf0.pg {X : Cx} {W : WX} {sc : Scope} {N : List Str} (C : Cf0 X W sc N) {i : Nat} {x : Str} {p : Pos} (hN : N[i]? = some x) (hv : Sto X sc x) : PG X (.Name x p) (gName i) :=
  pg_name (by rw [C.hN]; exact C.nd) (by rw [C.hN]; exact hN) (by rw [C.hsc]; exact hv.1) (by rw [C.hsc]; exact hv.2)
end PD


set_option Elab.async false
set_option linter.all false
set_option maxRecDepth 100000
set_option maxHeartbeats 4000000
set_option autoImplicit false
namespace PD
open PySem L2
section
variable {X : Cx} {W : WX} {sc : Scope} {N : List Str} {e : Expr} {ss rest : List Stmt} {s : Stmt} {pos : Pos} {f g : DS}
/-! ## new cells -/
def nL (n : DN) : DC := fun Γ => (n Γ).bind fun z => .val (.lst z.1, z.2)
theorem cc_l {n : DN} (h : CN X W e n) : CC X W e (nL n) := fun Γ => pe_imp (h Γ) fun σ H Q ⟨G, S, p⟩ => ⟨G, S, (Pst.bind p).imp fun z G1 H1 e1 p1 q vs S1 hq hd => p1 G1 H1 (Ext.rf S1.w) _ _ S1 (newc_lst hq hd)⟩
/-- a new cell as data -/
def eN (n : DC) : DF := fun Γ => (n Γ).bind fun z => (R.ofO (frzC z.1)).bind fun d => .val (.d true d, z.2)
theorem ce_n {n : DC} (h : CC X W e n) : CE X W e (eN n) := fun Γ => pe_imp (h Γ) fun σ H Q ⟨G, S, p⟩ => ⟨G, S, (Pst.bind p).imp fun z G1 H1 e1 p1 v H2 S1 hn => by
  cases hz : frzC z.1 with
  | none => rw [hz] at p1; exact p1.elim
  | some d =>
    rw [hz] at p1
    obtain ⟨G2, S2, e2, d2⟩ := hn.frz S1 hz
    exact p1 G2 H2 e2 v S2 d2⟩
/-! ## blocks -/
def bNil : DS := fun Γ => .val (.nx, Γ)
def bSeq (f g : DS) : DS := fun Γ => (f Γ).bind fun z => match z.1 with
  | .nx => g z.2
  | w => .val (w, z.2)
theorem cs_nil : CS X W [] bNil := fun Γ => pss_imp pss_nil fun D σ H ⟨G, S, p⟩ => p G H (Ext.rf S.w) σ S
theorem cs_cons (hs : C1 X W s f) (hr : CS X W rest g) : CS X W (s :: rest) (bSeq f g) := fun Γ =>
  pss_imp (pss_cons (hs Γ) (pss_any fun Γ1 => hr Γ1)) fun D σ H ⟨G, S, p⟩ => ⟨G, S, (Pst.bind p).imp fun z G1 H1 e1 p1 => by
    obtain ⟨w, Γ1⟩ := z
    cases w with
    | nx => exact fun σ1 S1 => ⟨Γ1, G1, S1, p1⟩
    | bk => exact p1 G1 H1 (Ext.rf e1.w)
    | ct => exact p1 G1 H1 (Ext.rf e1.w)
    | rt r =>
      have q : FinU X.K G1 H1 D Γ1 (.rt r) := p1 G1 H1 (Ext.rf e1.w)
      cases r with
      | d x => exact q
      | c x => exact q⟩
/-- ghost steps -/
def bFrz (i : Nat) (g : DS) : DS := fun Γ => match Γ[i]? with
  | some (.own c) => (R.ofO (frzC c)).bind fun d => g (Γ.set i (.dat true d))
  | _ => g Γ
theorem cs_frz (i : Nat) (h : CS X W ss g) : CS X W ss (bFrz i g) := fun Γ => by
  unfold bFrz
  split
  · rename_i c hc
    cases hd : frzC c with
    | none => exact pss_imp (h Γ) fun D σ H ⟨G, S, p⟩ => p.elim
    | some d =>
      exact pss_imp (h _) fun D σ H ⟨G, S, p⟩ => by
        obtain ⟨G2, S2, e2⟩ := S.freezeC i hc hd
        exact ⟨G2, S2, Pst.ext p e2⟩
  · exact h Γ
def bWipe (is : List Nat) (g : DS) : DS := fun Γ => g (wipeG Γ is)
theorem cs_wipe (is : List Nat) (h : CS X W ss g) : CS X W ss (bWipe is g) := fun Γ => pss_imp (h _) fun D σ H ⟨G, S, p⟩ => ⟨G, S.wipe is, p⟩
/-! ## statements -/
def asSl : AV → Option Sl
  | .d fr d => some (.dat fr d)
  | _ => none
def bSet (i : Nat) (e : DF) : DS := fun Γ => (e Γ).bind fun z => (R.ofO (asSl z.1)).bind fun s => .val (.nx, z.2.set i s)
theorem c1_set (C : Cf0 X W sc N) (i : Nat) {x : Str} {p' : Pos} {f : DF} (hN : N[i]? = some x) (hv : Sto X sc x) (he : CE X W e f) (hs : swapsWith e (some (.Name x p')) pos.line X.env = pure false := by rfl) : C1 X W (.Assign [.Name x p'] e pos) (bSet i f) := fun Γ => by
  have hx : Loc X.env.scope x := by rw [C.hsc]; exact hv.1
  refine ps_imp (ps_set (i := i) (by rw [C.hN]; exact C.nd) (by rw [C.hN]; exact hN) hx (he Γ) hs (by rw [C.hsc]; exact hv.2)) fun D σ H ⟨G, S, p⟩ => ⟨G, S, (Pst.bind p).imp fun z G1 H1 e1 p1 v S1 a1 => ?_⟩
  obtain ⟨y, Γ1⟩ := z
  cases y with
  | d fr d => exact p1 G1 H1 (Ext.rf S1.w) _ (S1.put i a1)
  | s j => exact p1.elim
def bSetC (i : Nat) (n : DC) : DS := fun Γ => (n Γ).bind fun z => .val (.nx, z.2.set i (.own z.1))
theorem c1_setC (C : Cf0 X W sc N) (i : Nat) {x : Str} {p' : Pos} {n : DC} (hN : N[i]? = some x) (hv : Sto X sc x) (he : CC X W e n) (hs : swapsWith e (some (.Name x p')) pos.line X.env = pure false := by rfl) : C1 X W (.Assign [.Name x p'] e pos) (bSetC i n) := fun Γ => by
  have hx : Loc X.env.scope x := by rw [C.hsc]; exact hv.1
  refine ps_imp (ps_set (i := i) (by rw [C.hN]; exact C.nd) (by rw [C.hN]; exact hN) hx (he Γ) hs (by rw [C.hsc]; exact hv.2)) fun D σ H ⟨G, S, p⟩ => ⟨G, S, (Pst.bind p).imp fun z G1 H1 e1 p1 v H2 S1 hn => ?_⟩
  obtain ⟨S2, e2⟩ := S1.putC i hn
  exact p1 G1 H2 e2 _ S2
def bExpr (e : DF) : DS := fun Γ => (e Γ).bind fun z => .val (.nx, z.2)
theorem c1_expr {f : DF} (he : CE X W e f) (hs : swapsWith e none pos.line X.env = pure false := by rfl) : C1 X W (.Expr e pos) (bExpr f) := fun Γ =>
  ps_imp (ps_expr (he Γ) hs) fun D σ H ⟨G, S, p⟩ => ⟨G, S, (Pst.bind p).imp fun z G1 H1 e1 p1 v S1 a1 => p1 G1 H1 (Ext.rf S1.w) σ S1⟩
theorem c1_pass : C1 X W (.Pass pos) bNil := fun Γ => ps_imp ps_pass fun D σ H ⟨G, S, p⟩ => p G H (Ext.rf S.w) σ S
/-- return -/
def bRet (e : DF) : DS := fun Γ => (e Γ).bind fun z => (frzA z).bind fun y => match y.1 with
  | .d true d => .val (.rt (.d d), y.2)
  | _ => .bad
theorem frzP {ρ : Type} {G : Gh} {H : Hp} {σ : St} {x : AV} {Γ : List Sl} {v : V} {k : AV × List Sl → R ρ} {P : ρ → Gh → Hp → Prop} (S : Sta X.K G H σ Γ) (hv : AVok X.K G H σ v x) (p : Pst X W G H σ ((frzA (x, Γ)).bind k) P) : ∃ y G', Sta X.K G' H σ y.2 ∧ Ext G H G' H ∧ AVok X.K G' H σ v y.1 ∧ Pst X W G' H σ (k y) P := by
  unfold frzA at p
  split at p
  · rename_i hz; cases hz; exact ⟨_, G, S, Ext.rf S.w, hv, p⟩
  · rename_i d Γ2 hz
    cases hz
    refine ⟨_, G, S, Ext.rf S.w, ?_, p⟩
    cases hf : flat d with
    | false => exact hv
    | true => exact Dn.free hv hf
  · rename_i i Γ2 hz
    cases hz
    split at p
    · rename_i ds hi
      obtain ⟨G2, S2, e2⟩ := S.freeze i hi
      have h2 : (Γ.set i (.dat true (.list ds)))[i]? = some (.dat true (.list ds)) := set_at (List.getElem?_eq_some_iff.mp hi).1
      obtain ⟨A2, T2⟩ := id S2
      obtain ⟨_, w, g1, g2⟩ := T2.sl i _ h2
      have hv : σ[i]? = some (some v) := hv
      rw [hv] at g1
      cases g1
      exact ⟨(.d true (.list ds), Γ.set i (.dat true (.list ds))), G2, S2, e2, g2, Pst.ext p e2⟩
    · exact p.elim
theorem c1_ret {f : DF} (he : CE X W e f) : C1 X W (.Return (some e) pos) (bRet f) := fun Γ =>
  ps_imp (ps_ret (he Γ)) fun D σ H ⟨G, S, p⟩ => ⟨G, S, (Pst.bind p).imp fun z G1 H1 e1 p1 v S1 a1 => by
    obtain ⟨x, Γ1⟩ := z
    obtain ⟨y, G2, S2, e2, a2, p2⟩ := frzP S1 a1 p1
    obtain ⟨y, Γ2⟩ := y
    simp only at p2
    split at p2
    · exact p2 G2 H1 (Ext.rf S2.w) σ v S2 a2
    · exact p2.elim⟩
def bRet0 : DS := fun Γ => .val (.rt (.d .none), Γ)
theorem c1_ret0 : C1 X W (.Return none pos) bRet0 := fun Γ => ps_imp ps_retN fun D σ H ⟨G, S, p⟩ => p G H (Ext.rf S.w) σ .non S .non
def bRetC (n : DC) : DS := fun Γ => (n Γ).bind fun z => .val (.rt (.c z.1), z.2)
theorem c1_retC {n : DC} (he : CC X W e n) : C1 X W (.Return (some e) pos) (bRetC n) := fun Γ =>
  ps_imp (ps_ret (he Γ)) fun D σ H ⟨G, S, p⟩ => ⟨G, S, (Pst.bind p).imp fun z G1 H1 e1 p1 v H2 S1 hn => p1 G1 H1 (Ext.rf S1.w) σ v H2 S1 hn⟩
def bRetO (i : Nat) : DS := fun Γ => match Γ[i]? with
  | some (.own c) => .val (.rt (.c c), Γ.set i .un)
  | _ => .bad
theorem c1_retO (C : Cf0 X W sc N) (i : Nat) {x : Str} {p' : Pos} (hN : N[i]? = some x) (hv : visB sc x = true) (hd : (x == ("__debug__" : Str)) = false := by decide +kernel) (hcd : (x == ("__classdict__" : Str)) = false := by decide +kernel) : C1 X W (.Return (some (.Name x p')) pos) (bRetO i) := fun Γ => by
  unfold bRetO
  split
  · rename_i c hc
    refine ps_imp (ps_ret (evp_slot (Γ := Γ) (W := W) C (.inl hc) hN hv hd hcd)) fun D σ H ⟨G, S, p⟩ => ⟨G, S, fun G1 H1 e1 v S1 a1 => ?_⟩
    obtain ⟨w, H2, h1, S2, e2, n2⟩ := S1.releaseC i hc
    have a1 : σ[i]? = some (some v) := a1
    rw [h1] at a1
    cases a1
    exact p G1 H2 (e1.tr e2) σ v H1 S2 n2
  · exact ⟨fun pins s σ H D I ⟨G, S, p⟩ => p.elim⟩
/-- if -/
def bIf (c : DT) (f g : DS) : DS := fun Γ => (c Γ).bind fun x => if x.1 then f x.2 else g x.2
theorem c1_if {c : Expr} {a b : List Stmt} {t : DT} (hc : CT X W c t) (ha : CS X W a f) (hb : CS X W b g) : C1 X W (.If c a b pos) (bIf t f g) := fun Γ =>
  ps_imp (ps_if (hc Γ) (pss_any fun Γ1 => ha Γ1) (pss_any fun Γ1 => hb Γ1)) fun D σ H ⟨G, S, p⟩ => ⟨G, S, (Pst.bind p).imp fun z G1 H1 e1 p1 S1 => by
    obtain ⟨z, Γ1⟩ := z
    cases z with
    | true => exact itT ⟨Γ1, G1, S1, p1⟩
    | false => exact itF ⟨Γ1, G1, S1, p1⟩⟩
def bBreak : DS := fun Γ => .val (.bk, Γ)
theorem c1_break : C1 X W (.Break pos) bBreak := fun Γ => ps_imp ps_break fun D σ H ⟨G, S, p⟩ => p G H (Ext.rf S.w) σ S
def bCont : DS := fun Γ => .val (.ct, Γ)
theorem c1_cont : C1 X W (.Continue pos) bCont := fun Γ => ps_imp ps_continue fun D σ H ⟨G, S, p⟩ => p G H (Ext.rf S.w) σ S
/-! ## targets -/
abbrev DG := Bool → PyData → List Sl → Option (List Sl)
def CG (X : Cx) (tg : Expr) (ts : List Nat) (g : DG) : Prop :=
  PG X tg (fun v σ H Q => ∃ G Γ fr d Γ', Sta X.K G H σ Γ ∧ Dn X.K (rg G fr) H v d ∧ g fr d Γ = some Γ' ∧ ∀ σ', σ'.length = σ.length → (∀ j, j ∉ ts → σ'[j]? = σ[j]?) → Sta X.K G H σ' Γ' → Q σ' H)
def gN (i : Nat) : DG := fun fr d Γ => some (Γ.set i (.dat fr d))
theorem cg_name (C : Cf0 X W sc N) (i : Nat) {x : Str} {p : Pos} (hN : N[i]? = some x) (hv : Sto X sc x) : CG X (.Name x p) [i] (gN i) :=
  pg_imp (C.pg hN hv) fun v σ H Q ⟨G, Γ, fr, d, Γ', S, h, e, k⟩ => by
    cases e
    exact k _ (List.length_set ..) (fun j hj => List.getElem?_set_ne (Ne.symm (by simpa using hj))) (S.put i h)
def gT2 (g1 g2 : DG) : DG := fun fr d Γ => match d with
  | .tuple [a, b] => (g1 fr a Γ).bind fun Γ1 => g2 fr b Γ1
  | _ => none
theorem cg_tup2 (C : Cf X W sc N) {t1 t2 : Expr} {kk : Nat} {p : Pos} {g1 g2 : DG} {ts1 ts2 : List Nat} (h1 : CG X t1 ts1 g1) (h2 : CG X t2 ts2 g2)
    (hn : (assignEach [t1, t2] X.env).length = 2 := by rfl) (hst : (assignEach [t1, t2] X.env).findIdx? (·.1) = none := by rfl) (hs1 : (assignEach [t1, t2] X.env).map (·.2) = assign t1 X.env :: (assignEach [t2] X.env).map (·.2) := by rfl) (hs2 : (assignEach [t2] X.env).map (·.2) = assign t2 X.env :: (assignEach [] X.env).map (·.2) := by rfl) :
    CG X (.Tuple [t1, t2] kk p) (ts1 ++ ts2) (gT2 g1 g2) := by
  refine pg_imp (pg_tup (n := 2) C.calm (pgs_cons h1 (pgs_cons h2 pgs_nil hs2) hs1) hn hst) fun v σ H Q ⟨G, Γ, fr, d, Γ', S, h, e, k⟩ => ?_
  unfold gT2 at e
  split at e
  · rename_i a b
    obtain ⟨q, xs, rfl, hq, hd⟩ := dn_tuple h
    cases hd with
    | cons d1 r1 =>
      cases r1 with
      | cons d2 r2 =>
        cases r2
        cases e1 : g1 fr a Γ with
        | none => rw [e1] at e; cases e
        | some Γ1 =>
          rw [e1] at e
          exact ⟨q, _, rfl, hq, rfl, _, _, rfl, G, Γ, fr, a, Γ1, S, d1, e1, fun σ1 l1 k1 S1 => ⟨_, _, rfl, G, Γ1, fr, b, Γ', S1, d2, e, fun σ2 l2 k2 S2 => ⟨rfl, k _ (l2.trans l1) (fun j hj => (k2 j fun z => hj (by simp [z])).trans (k1 j fun z => hj (by simp [z]))) S2⟩⟩⟩
  · cases e
def gT3 (g1 g2 g3 : DG) : DG := fun fr d Γ => match d with
  | .tuple [a, b, c] => (g1 fr a Γ).bind fun Γ1 => (g2 fr b Γ1).bind fun Γ2 => g3 fr c Γ2
  | _ => none
theorem cg_tup3 (C : Cf X W sc N) {t1 t2 t3 : Expr} {kk : Nat} {p : Pos} {g1 g2 g3 : DG} {ts1 ts2 ts3 : List Nat} (h1 : CG X t1 ts1 g1) (h2 : CG X t2 ts2 g2) (h3 : CG X t3 ts3 g3)
    (hn : (assignEach [t1, t2, t3] X.env).length = 3 := by rfl) (hst : (assignEach [t1, t2, t3] X.env).findIdx? (·.1) = none := by rfl) (hs1 : (assignEach [t1, t2, t3] X.env).map (·.2) = assign t1 X.env :: (assignEach [t2, t3] X.env).map (·.2) := by rfl)
    (hs2 : (assignEach [t2, t3] X.env).map (·.2) = assign t2 X.env :: (assignEach [t3] X.env).map (·.2) := by rfl) (hs3 : (assignEach [t3] X.env).map (·.2) = assign t3 X.env :: (assignEach [] X.env).map (·.2) := by rfl) :
    CG X (.Tuple [t1, t2, t3] kk p) (ts1 ++ ts2 ++ ts3) (gT3 g1 g2 g3) := by
  refine pg_imp (pg_tup (n := 3) C.calm (pgs_cons h1 (pgs_cons h2 (pgs_cons h3 pgs_nil hs3) hs2) hs1) hn hst) fun v σ H Q ⟨G, Γ, fr, d, Γ', S, h, e, k⟩ => ?_
  unfold gT3 at e
  split at e
  · rename_i a b c
    obtain ⟨q, xs, rfl, hq, hd⟩ := dn_tuple h
    cases hd with
    | cons d1 r1 =>
      cases r1 with
      | cons d2 r2 =>
        cases r2 with
        | cons d3 r3 =>
          cases r3
          cases e1 : g1 fr a Γ with
          | none => rw [e1] at e; cases e
          | some Γ1 =>
            rw [e1] at e
            have e : (g2 fr b Γ1).bind (fun Γ2 => g3 fr c Γ2) = some Γ' := e
            cases e2 : g2 fr b Γ1 with
            | none => rw [e2] at e; cases e
            | some Γ2 =>
              rw [e2] at e
              exact ⟨q, _, rfl, hq, rfl, _, _, rfl, G, Γ, fr, a, Γ1, S, d1, e1, fun σ1 l1 k1 S1 => ⟨_, _, rfl, G, Γ1, fr, b, Γ2, S1, d2, e2, fun σ2 l2 k2 S2 => ⟨_, _, rfl, G, Γ2, fr, c, Γ', S2, d3, e, fun σ3 l3 k3 S3 => ⟨rfl, k _ (l3.trans (l2.trans l1)) (fun j hj => (k3 j fun z => hj (by simp [z])).trans ((k2 j fun z => hj (by simp [z])).trans (k1 j fun z => hj (by simp [z])))) S3⟩⟩⟩⟩
  · cases e
/-- a target gets a value -/
def bSetG (g : DG) (e : DF) : DS := fun Γ => (e Γ).bind fun z => match z.1 with
  | .d fr d => (R.ofO (g fr d z.2)).bind fun Γ1 => .val (.nx, Γ1)
  | _ => .bad
theorem c1_setG {tg : Expr} {ts : List Nat} {gg : DG} {f : DF} (hg : CG X tg ts gg) (he : CE X W e f) (hs : swapsWithSole [tg] e pos.line X.env = pure false := by rfl) (hw : swappedStores [tg] e X.env = pure none := by rfl) (h1 : (assignEach [tg] X.env).map (·.2) = [assign tg X.env] := by rfl) : C1 X W (.Assign [tg] e pos) (bSetG gg f) := fun Γ =>
  ps_imp (ps_asg (he Γ) hg hs hw h1) fun D σ H ⟨G, S, p⟩ => ⟨G, S, (Pst.bind p).imp fun z G1 H1 e1 p1 v S1 a1 => by
    obtain ⟨y, Γ1⟩ := z
    cases y with
    | s j => exact p1.elim
    | d fr d =>
      have p1 : Pst X W G1 H1 σ ((R.ofO (gg fr d Γ1)).bind fun Γ1 => (R.val (Fw.nx, Γ1))) (fun z G' H' => FinU X.K G' H' D z.2 z.1) := p1
      cases hz : gg fr d Γ1 with
      | none => rw [hz] at p1; exact p1.elim
      | some Γ2 =>
        rw [hz] at p1
        exact ⟨G1, Γ1, fr, d, Γ2, S1, a1, hz, fun σ' _ _ S' => p1 G1 H1 (Ext.rf S1.w) σ' S'⟩⟩
end
end PD


set_option Elab.async false
set_option linter.all false
set_option maxRecDepth 100000
set_option maxHeartbeats 4000000
set_option autoImplicit false
namespace PD
open PySem L2
/-! ## what a for walks -/
theorem itd_list {K : PySem.W.Frag} {G : Gh} {H : Hp} {a : Addr} {xs : List V} {ds : List PyData} {fr : Bool} (h : LsR K (rg G fr) a xs) (hd : DnA K (rg G fr) H xs ds) : ItD K G H (Itl K a) ds fr := by
  have sq : ∀ G2 H2, Le G H G2 H2 → SqL K H2 a xs := fun G2 H2 e => ((h.mono (e.rgl fr)).mono (e.w.rgl fr)).sq
  have hl := hd.length
  refine ⟨fun i G2 H2 hi e => ⟨xs, xs[i], sq G2 H2 e, by simp⟩, fun i G2 H2 σ Γ v H3 hi e S y => ?_, fun G2 H2 e => ⟨xs, sq G2 H2 e, Nat.le_of_eq hl⟩⟩
  obtain ⟨rfl, hy⟩ := y
  obtain ⟨d, h1, h2⟩ := (e.dna hd).get (hy xs (sq G2 _ e))
  exact ⟨G2, d, h1, Ext.rf S.w, S, h2⟩
theorem itd_tup {K : PySem.W.Frag} {G : Gh} {H : Hp} {a : Addr} {xs : List V} {ds : List PyData} {fr : Bool} (h : H a = some (.tup xs)) (hd : DnA K (rg G fr) H xs ds) : ItD K G H (Itt K a) ds fr := by
  have sq : ∀ G2 H2, Le G H G2 H2 → SqT K H2 a xs := fun G2 H2 e => SqT.of (e.t _ _ h)
  have hl := hd.length
  refine ⟨fun i G2 H2 hi e => ⟨xs, xs[i], sq G2 H2 e, by simp⟩, fun i G2 H2 σ Γ v H3 hi e S y => ?_, fun G2 H2 e => ⟨xs, sq G2 H2 e, Nat.le_of_eq hl⟩⟩
  obtain ⟨rfl, hy⟩ := y
  obtain ⟨d, h1, h2⟩ := (e.dna hd).get (hy xs (sq G2 _ e))
  exact ⟨G2, d, h1, Ext.rf S.w, S, h2⟩
theorem itd_range {K : PySem.W.Frag} {G : Gh} {H : Hp} {lo : Int} {n : Nat} {ds : List PyData} (hd : ds = (List.range n).map fun i => PyData.int (lo + (i : Nat))) : ItD K G H (Itr lo n) ds true := by
  subst hd
  refine ⟨fun i G2 H2 hi e => by simpa [Itr] using hi, fun i G2 H2 σ Γ v H3 hi e S y => ?_, fun G2 H2 e => by simp [Itr]⟩
  obtain ⟨rfl, rfl⟩ := y
  have hi : i < n := by simpa using hi
  exact ⟨G2, .int (lo + (i : Nat)), by simp [hi], Ext.rf S.w, S, .int _⟩
def rng (lo hi : Int) : List Int := (List.range (hi - lo).toNat).map fun i => lo + (i : Nat)
def cRng (lo hi : Int) : Bool := decide (-(2 ^ 62) ≤ lo ∧ lo < 2 ^ 62 ∧ -(2 ^ 62) ≤ hi ∧ hi < 2 ^ 62)
theorem rng_ds (lo hi : Int) : (rng lo hi).map PyData.int = (List.range (hi - lo).toNat).map fun i => PyData.int (lo + (i : Nat)) := by
  unfold rng
  rw [List.map_map]
  rfl
theorem sta_pair {K : PySem.W.Frag} {G : Gh} {H : Hp} {σ : St} {Γ : List Sl} {T : Addr} {x y : V} {d1 d2 : PyData} {fr : Bool} (S : Sta K G H σ Γ) (hT : H T = none) (h1 : Dn K (rg G fr) H x d1) (h2 : Dn K (rg G fr) H y d2) :
    ∃ G3, Ext G H G3 (upd H T (.tup [x, y])) ∧ Sta K G3 (upd H T (.tup [x, y])) σ Γ ∧ Dn K (rg G3 fr) (upd H T (.tup [x, y])) (.ref T) (.tuple [d1, d2]) := by
  obtain ⟨G3, S3, e3, h3⟩ := S.newTup (ds := [d1, d2]) hT (.cons h1 (.cons h2 .nil))
  exact ⟨G3, e3, S3, h3⟩
def enumD (ds : List PyData) : List PyData := ds.mapIdx fun i d => .tuple [.int (i : Nat), d]
theorem itd_enum {K : PySem.W.Frag} {G : Gh} {H : Hp} {a : Addr} {xs : List V} {ds : List PyData} {fr : Bool} (h : LsR K (rg G fr) a xs) (hd : DnA K (rg G fr) H xs ds) : ItD K G H (Ite K a) (enumD ds) fr := by
  have sq : ∀ G2 H2, Le G H G2 H2 → SqL K H2 a xs := fun G2 H2 e => ((h.mono (e.rgl fr)).mono (e.w.rgl fr)).sq
  have hl := hd.length
  have hl2 : (enumD ds).length = xs.length := by unfold enumD; simp [hl]
  refine ⟨fun i G2 H2 hi e => ⟨xs, xs[i]'(by rw [hl2] at hi; exact hi), sq G2 H2 e, by simp⟩, fun i G2 H2 σ Γ v H3 hi e S y => ?_, fun G2 H2 e => ⟨xs, sq G2 H2 e, by rw [hl2]; exact Nat.le_refl _⟩⟩
  obtain ⟨T, x, rfl, hT, rfl, hy⟩ := y
  obtain ⟨d, h1, h2⟩ := (e.dna hd).get (hy xs (sq G2 _ e))
  obtain ⟨G3, e3, S3, h3⟩ := sta_pair S hT (.int (i : Nat)) h2
  refine ⟨G3, _, ?_, e3, S3, h3⟩
  unfold enumD
  rw [List.getElem?_mapIdx, h1]
  rfl
def zipD (ds es : List PyData) : List PyData := List.zipWith (fun d e => .tuple [d, e]) ds es
theorem itd_zip {K : PySem.W.Frag} {G : Gh} {H : Hp} {a b : Addr} {xs ys : List V} {ds es : List PyData} {fr : Bool} (h : LsR K (rg G fr) a xs) (hd : DnA K (rg G fr) H xs ds) (h' : LsR K (rg G fr) b ys) (hd' : DnA K (rg G fr) H ys es) : ItD K G H (Itz K a b) (zipD ds es) fr := by
  have sq : ∀ G2 H2, Le G H G2 H2 → SqL K H2 a xs := fun G2 H2 e => ((h.mono (e.rgl fr)).mono (e.w.rgl fr)).sq
  have sq' : ∀ G2 H2, Le G H G2 H2 → SqL K H2 b ys := fun G2 H2 e => ((h'.mono (e.rgl fr)).mono (e.w.rgl fr)).sq
  have hl := hd.length
  have hl' := hd'.length
  have hl2 : (zipD ds es).length = min xs.length ys.length := by unfold zipD; simp [hl, hl']
  refine ⟨fun i G2 H2 hi e => ?_, fun i G2 H2 σ Γ v H3 hi e S y => ?_, fun G2 H2 e => ⟨xs, ys, sq G2 H2 e, sq' G2 H2 e, by rw [hl2]; omega⟩⟩
  · rw [hl2] at hi
    exact ⟨xs, ys, xs[i]'(by omega), ys[i]'(by omega), sq G2 H2 e, sq' G2 H2 e, by simp, by simp⟩
  · obtain ⟨T, x, z, rfl, hT, rfl, hy, hy'⟩ := y
    obtain ⟨d, h1, h2⟩ := (e.dna hd).get (hy xs (sq G2 _ e))
    obtain ⟨d', h1', h2'⟩ := (e.dna hd').get (hy' ys (sq' G2 _ e))
    obtain ⟨G3, e3, S3, h3⟩ := sta_pair S hT h2 h2'
    refine ⟨G3, _, ?_, e3, S3, h3⟩
    unfold zipD
    rw [List.getElem?_zipWith, h1, h1']
abbrev DI := List Sl → R ((List PyData × Bool) × List Sl)
def rdIU (X : Cx) (W : WX) (Γ : List Sl) (m : R ((List PyData × Bool) × List Sl)) : TI := fun σ H Q => ∃ G, Sta X.K G H σ Γ ∧ Pst X W G H σ m fun r G' H' => ∀ J, Sta X.K G' H' σ r.2 → ItD X.K G' H' J r.1.1 r.1.2 → Q J H'
def CI (X : Cx) (W : WX) (tg iter : Expr) (f : DI) : Prop := ∀ Γ, PI X tg iter (rdIU X W Γ (f Γ))
section
variable {X : Cx} {W : WX} {sc : Scope} {N : List Str} {e e2 tg iter : Expr} {pos p : Pos} {f g : DF} {k : DA}
theorem pi_no {t : TI} (h : ∀ σ H Q, ¬ t σ H Q) : PI X tg iter t := ⟨fun pins s σ H R I z => (h _ _ _ z).elim⟩
def seqA : AV → Option (List PyData × Bool)
  | .d fr (.list ds) => some (ds, fr)
  | .d fr (.tuple ds) => some (ds, fr)
  | _ => none
def iSeq (f : DF) : DI := fun Γ => (f Γ).bind fun z => (R.ofO (seqA z.1)).bind fun y => .val (y, z.2)
theorem ci_seq (h : CE X W e f) : CI X W tg e (iSeq f) := fun Γ => by
  have h := h Γ
  unfold iSeq
  cases hf : f Γ with
  | bad => exact pi_no fun σ H Q ⟨G, S, q⟩ => q
  | exc x =>
    rw [hf] at h
    exact pi_imp (pi_list h) fun σ H Q ⟨G, S, q⟩ => ⟨G, S, q⟩
  | val z =>
    rw [hf] at h
    obtain ⟨y, Γ1⟩ := z
    cases hy : seqA y with
    | none =>
      refine pi_no fun σ H Q ⟨G, S, q⟩ => ?_
      · have q : Pst X W G H σ ((R.ofO (seqA y)).bind fun y => R.val (y, Γ1)) (fun r G' H' => ∀ J, Sta X.K G' H' σ r.2 → ItD X.K G' H' J r.1.1 r.1.2 → Q J H') := q
        rw [hy] at q
        exact q
    | some w =>
      have key : ∀ {σ H Q}, rdIU X W Γ ((R.val (y, Γ1)).bind fun z => (R.ofO (seqA z.1)).bind fun y => .val (y, z.2)) σ H Q → ∃ G, Sta X.K G H σ Γ ∧ ∀ G' H', Ext G H G' H' → ∀ J, Sta X.K G' H' σ Γ1 → ItD X.K G' H' J w.1 w.2 → Q J H' := fun {σ H Q} ⟨G, S, q⟩ => by
        have q : Pst X W G H σ ((R.ofO (seqA y)).bind fun y => R.val (y, Γ1)) (fun r G' H' => ∀ J, Sta X.K G' H' σ r.2 → ItD X.K G' H' J r.1.1 r.1.2 → Q J H') := q
        rw [hy] at q
        exact ⟨G, S, q⟩
      unfold seqA at hy
      split at hy
      · cases hy
        refine pi_imp (pi_list h) fun σ H Q z => ?_
        obtain ⟨G, S, q⟩ := key z
        refine ⟨G, S, fun G' H' e' v S' a => ?_⟩
        obtain ⟨l, xs, rfl, h1, h2⟩ := dn_list a
        exact ⟨l, rfl, ⟨xs, (h1.mono (S'.w.rgl _)).sq⟩, q G' H' e' _ S' (itd_list h1 h2)⟩
      · cases hy
        refine pi_imp (pi_tup h) fun σ H Q z => ?_
        obtain ⟨G, S, q⟩ := key z
        refine ⟨G, S, fun G' H' e' v S' a => ?_⟩
        obtain ⟨l, xs, rfl, h1, h2⟩ := dn_tupleH a
        exact ⟨l, rfl, ⟨xs, SqT.of h1⟩, q G' H' e' _ S' (itd_tup h1 h2)⟩
      · cases hy
theorem avs_one {K : PySem.W.Frag} {G : Gh} {H : Hp} {σ : St} {vs : List V} {a : AV} (h : AVs K G H σ vs [a]) : ∃ v, vs = [v] ∧ AVok K G H σ v a := by
  cases h with
  | cons h r => cases r; exact ⟨_, rfl, h⟩
theorem avs_two {K : PySem.W.Frag} {G : Gh} {H : Hp} {σ : St} {vs : List V} {a b : AV} (h : AVs K G H σ vs [a, b]) : ∃ v u, vs = [v, u] ∧ AVok K G H σ v a ∧ AVok K G H σ u b := by
  cases h with
  | cons h r =>
    obtain ⟨u, rfl, h2⟩ := avs_one r
    exact ⟨_, u, rfl, h, h2⟩
theorem avs_three {K : PySem.W.Frag} {G : Gh} {H : Hp} {σ : St} {vs : List V} {a b c : AV} (h : AVs K G H σ vs [a, b, c]) : ∃ v u w, vs = [v, u, w] ∧ AVok K G H σ v a ∧ AVok K G H σ u b ∧ AVok K G H σ w c := by
  cases h with
  | cons h r =>
    obtain ⟨u, w, rfl, h2, h3⟩ := avs_two r
    exact ⟨_, u, w, rfl, h, h2, h3⟩
/-- ranges -/
def intA : AV → Option Int
  | .d _ (.int i) => some i
  | _ => none
theorem intA_ok {K : PySem.W.Frag} {G : Gh} {H : Hp} {σ : St} {v : V} {a : AV} {i : Int} (h : intA a = some i) (hv : AVok K G H σ v a) : v = .int i := by
  unfold intA at h
  split at h
  · cases h; exact dn_int hv
  · cases h
theorem Pst.ofO {G : Gh} {H : Hp} {σ : St} {α τ : Type} {o : Option α} {k : α → R τ} {P : τ → Gh → Hp → Prop} (h : Pst X W G H σ ((R.ofO o).bind k) P) : ∃ x, o = some x ∧ Pst X W G H σ (k x) P := by
  cases o with
  | none => exact h.elim
  | some x => exact ⟨x, rfl, h⟩
theorem Pst.req {G : Gh} {H : Hp} {σ : St} {τ : Type} {c : Bool} {m : R τ} {P : τ → Gh → Hp → Prop} (h : Pst X W G H σ ((R.req c).bind fun _ => m) P) : c = true ∧ Pst X W G H σ m P := by
  cases c with
  | false => exact h.elim
  | true => exact ⟨rfl, h⟩
theorem Pst.gq {G : Gh} {H : Hp} {σ : St} {τ : Type} {c : Bool} {a : τ} {P : τ → Gh → Hp → Prop} (w : Wf G H) (h : Pst X W G H σ (gq c a) P) : c = true ∧ P a G H := by
  obtain ⟨h1, h2⟩ := Pst.req h
  exact ⟨h1, h2 G H (Ext.rf w)⟩
def iRange1 (f : DF) : DI := fun Γ => (f Γ).bind fun z => (R.ofO (intA z.1)).bind fun j => gq (cRng 0 j) (((rng 0 j).map PyData.int, true), z.2)
theorem ci_range1 (C : Cf0 X W sc N) (hg : glB sc "range" = true) (hm : X.mg "range" = none) (ha : CE X W e f) (hst : starEach [e] X.env = [(false, eval e X.env)] := by rfl) : CI X W tg (.Call (.Name "range" p) [e] [] pos) (iRange1 f) := fun Γ =>
  pi_imp (pi_range1 (C.gl hg) hm (pa_cons (ha Γ) pa_nil (by rw [hst]; rfl)) hst) fun σ H Q ⟨G, S, q⟩ => ⟨G, S, (Pst.bind q).imp fun z G1 H1 e1 p1 v S1 av => by
    obtain ⟨j, hj, p1⟩ := Pst.ofO p1
    obtain ⟨c, p1⟩ := Pst.gq S1.w p1
    have c := of_decide_eq_true c
    exact ⟨j, by rw [intA_ok hj av], c.2.2.1, c.2.2.2, p1 _ S1 (by rw [show j.toNat = (j - 0).toNat by simp]; exact itd_range (rng_ds 0 j))⟩⟩
def iRange2 (f g : DF) : DI := fun Γ => (f Γ).bind fun z => (g z.2).bind fun y => (R.ofO (intA z.1)).bind fun i => (R.ofO (intA y.1)).bind fun j => gq (cRng i j) (((rng i j).map PyData.int, true), y.2)
theorem ci_range2 (C : Cf0 X W sc N) (hg : glB sc "range" = true) (hm : X.mg "range" = none) (ha : CE X W e f) (hb : CE X W e2 g) (hst : starEach [e, e2] X.env = [(false, eval e X.env), (false, eval e2 X.env)] := by rfl) (hst2 : starEach [e2] X.env = [(false, eval e2 X.env)] := by rfl) : CI X W tg (.Call (.Name "range" p) [e, e2] [] pos) (iRange2 f g) := fun Γ =>
  pi_imp (pi_range2 (C.gl hg) hm (pa_cons (ha Γ) (pa_cons (pe_any fun z : AV × List Sl => hb z.2) pa_nil (by rw [hst2]; rfl)) (by rw [hst, hst2])) hst hst2) fun σ H Q ⟨G, S, q⟩ => ⟨G, S, (Pst.bind q).imp fun z G1 H1 e1 p1 v S1 av => ⟨z, G1, S1, (Pst.bind p1).imp fun y G2 H2 e2 p2 u S2 au => by
    obtain ⟨i, hi, p2⟩ := Pst.ofO p2
    obtain ⟨j, hj, p2⟩ := Pst.ofO p2
    obtain ⟨c, p2⟩ := Pst.gq S2.w p2
    have c := of_decide_eq_true c
    exact ⟨i, j, by rw [intA_ok hi (av.ext e2), intA_ok hj au], c, p2 _ S2 (itd_range (rng_ds i j))⟩⟩⟩
end
end PD


set_option Elab.async false
set_option linter.all false
set_option maxRecDepth 100000
set_option maxHeartbeats 4000000
set_option autoImplicit false
namespace PD
open PySem L2
open Sem (wp)
theorem enumT_new {v : Value} {ob : Obj} {Z : Heap → Prop} (B : Begins v ob Z) :
    Meets (Builtin.«enumerate.__new__» ⟨[.type "enumerate", v], []⟩) (fun _ R s => Z s.heap ∧ R (.ok (.ret (.ref (s.heap.push ob).objs.size)))
      { s with heap := (s.heap.push ob).push { cls := .type "enumerate", data := .fields #[.none, .bool false, .ref s.heap.objs.size, rawInt 0, .none, .none] } }) :=
  .of_wp fun prog w A R s h => by
    obtain ⟨hp, g, d, tk, os⟩ := s
    obtain ⟨z1, z2⟩ := h
    have z3 := sub_enumerate
    have z4 : ∀ {A' : Around} {E : Value → Shared → Prop} {Q : Value → Shared → Prop}, Q (.ref hp.objs.size) ⟨hp.push ob, g, d, tk, os⟩ → wpAny (model prog w) A' (pyIter v) Q E ⟨hp, g, d, tk, os⟩ :=
      fun q => B.iter prog w _ _ ⟨hp, g, d, tk, os⟩ _ z1 q
    wp_walk using z4
    refine wpAny_stack_any fun z5 => wpAny_pure ?_
    split
    · rename_i y _ _ _ _ _
      cases (y == Value.type "enumerate") <;> (wp_walk using z4) <;> exact ⟨_, rfl, z2⟩
    · wp_walk using z4
      exact ⟨_, rfl, z2⟩
theorem enumT_call {prog : Program} {w : World} {A : Around} {E : Value → Shared → Prop} {s : Shared} {v : Value} {ob : Obj} {Z : Heap → Prop} {Q : Value → Shared → Prop} (B : Begins v ob Z) (h1 : Z s.heap)
    (h : ∀ h', IsEnum h' (s.heap.objs.size + 1) s.heap.objs.size 0 .none → h'.get? s.heap.objs.size = some ob → h'.objs.size = s.heap.objs.size + 2 →
      (∀ b o, s.heap.get? b = some o → h'.get? b = some o) → Q (.ref (s.heap.objs.size + 1)) { s with heap := h' }) :
    wpAny (model prog w) A (call (.type "enumerate") [v]) Q E s := by
  refine callType_new F.called_enumerate (by decide) (F.typeCall_enumerate_1 _) (F.newCall_enumerate_1 _) (fun z => F.args_object_init_2 z _) F.entry_enumerate_new (enumT_new B) ⟨h1, ?_⟩
  have hz : (s.heap.push ob).objs.size = s.heap.objs.size + 1 := Heap.size_push ..
  show _ ∧ _
  rw [hz]
  have he : IsEnum ((s.heap.push ob).push { cls := .type "enumerate", data := .fields #[.none, .bool false, .ref s.heap.objs.size, rawInt 0, .none, .none] }) (s.heap.objs.size + 1) s.heap.objs.size 0 .none := by
    have q := Heap.get?_push_size (s.heap.push ob) (o := { cls := .type "enumerate", data := .fields #[.none, .bool false, .ref s.heap.objs.size, rawInt 0, .none, .none] }) rfl
    rw [hz] at q
    exact q
  exact ⟨⟨_, he, rfl⟩, h _ he (Heap.get?_push_of_some _ (Heap.get?_push_size _ B.free)) (by rw [Heap.size_push, hz]) fun b o x => Heap.get?_push_of_some _ (Heap.get?_push_of_some _ x)⟩
/-- the tuple at a, each item in a new pair -/
def IteT (K : PySem.W.Frag) (a : Addr) : It :=
  ⟨fun i H => ∃ (xs : List V) (x : V), SqT K H a xs ∧ xs[i]? = some x, fun i H v H' => ∃ T x, v = .ref T ∧ H T = none ∧ H' = upd H T (.tup [.int (i : Nat), x]) ∧ ∀ xs, SqT K H a xs → xs[i]? = some x, fun i H => ∃ xs : List V, SqT K H a xs ∧ xs.length ≤ i⟩
theorem turn_enumT {P : Program} {w : World} {K : PySem.W.Frag} {elts : List Expr} {kk : Nat} {tpos : Pos} (a e it : Addr) :
    Turn P w K (.Tuple elts kk tpos) (IteT K a) [e, it] e (fun i h => (∃ old, IsEnum h e it ((i : Nat) : Int) old) ∧ h.IsTupleIter it a i ∧ e ≠ it) where
  mem := by simp
  obj := fun i h st b hb => by
    obtain ⟨⟨old, he⟩, ⟨o, ho, hc, hd⟩, _⟩ := st
    rcases (show b = e ∨ b = it by simpa using hb) with z | z <;> rw [z]
    · exact ⟨_, he, fun v q => nomatch q⟩
    · exact ⟨o, ho, fun v q => by rw [hd] at q; cases q⟩
  keep := fun i h h' st k => ⟨⟨st.1.choose, k e (by simp) _ st.1.choose_spec⟩, st.2.1.at fun o q => k it (by simp) o q, st.2.2⟩
  item := by
    intro X hP hw hK hc i pins s σ H E I hf st hg
    subst hP hw hK
    obtain ⟨⟨old, he⟩, hit, hne⟩ := st
    obtain ⟨xs, x, hq, hx⟩ := hg
    obtain ⟨its, rv, pt, hz⟩ := I.tuple hq
    have pt : s.heap.IsTuple a its.toArray := pt
    obtain ⟨u, hu, ru⟩ := rv.get hx
    have hel : e < s.heap.objs.size := Heap.lt_size he
    have hil : it < s.heap.objs.size := hit.elim fun o q => Heap.lt_size q.1
    have ha1 : a ≠ it := by
      rintro rfl
      obtain ⟨o1, q1, q2, _⟩ := hit
      obtain ⟨o2, q3, q4, _⟩ := pt
      rw [q1] at q3; cases q3
      rw [q2] at q4; exact absurd (Value.type.inj q4) (by decide)
    have ha2 : e ∉ [it, a] := by
      intro z
      rcases (show e = it ∨ e = a by simpa using z) with z | z
      · exact hne z
      · obtain ⟨o2, q3, q4, _⟩ := pt
        rw [← z, he] at q3; cases q3
        exact absurd (Value.type.inj q4) (by decide)
    have D := Draws.tuple (prog := X.prog) (w := X.w) (A := X.A.in1) (I.ok.hd hc) it a ha1 its.toArray
    refine wpAny_pyNext_enum_itemD D he ⟨hit, pt⟩ (i := i) ?_ hne ha2 fun y h' tk hy ho hit' hT hsz hk => ?_
    · have := List.getElem?_eq_some_iff.mp hu
      simpa using this.1
    obtain rfl : y = u := by
      have : its[i]? = some y := by simpa using hy
      rw [hu] at this; cases this; rfl
    refine ⟨_, rfl, wpAny_letOwnedTupleGo_enum (s := { s with heap := h', toks := tk + 1 }) ho fun h'' he' sb => ?_⟩
    have hT2 : h''.get? s.heap.objs.size = some { cls := .type "tuple", data := .seq #[.int i tk, y] } := (sb.2 _ (Nat.ne_of_gt hel)).trans hT
    have new : ObjOk X.prog X.w (upd H s.heap.objs.size (.tup [.int (i : Nat), x])) h'' s.heap.objs.size (.tup [.int (i : Nat), x]) :=
      ⟨by show 2 ≤ sizeLine; decide, [.int i tk, y], .cons ⟨_, rfl⟩ (.cons ru .nil), ⟨_, hT2, rfl, _, rfl⟩⟩
    have I1 : Inv X pins σ (upd H s.heap.objs.size (.tup [.int (i : Nat), x])) { s with heap := h'', toks := tk + 1 } :=
      I.turnedNew (ch := [e, it]) (fun b ob hb q => (sb.2 b (fun z => hb (by simp [z]))).trans (hk b ob (fun z => hb (by simp [z])) (fun z => hb (by simp [z])) q)) hf (Nat.le_refl _) new
    refine ⟨.ref s.heap.objs.size, _, I1, rfl, ⟨_, x, rfl, I.hok.fresh (Nat.le_refl _), rfl, fun ys hy => by rw [I.tuple_inj hy hq]; exact hx⟩, ⟨⟨y, ?_⟩, hit'.1.at fun o q => (sb.2 it (Ne.symm hne)).trans q, hne⟩, fun b hb => ?_⟩
    · rw [show ((i + 1 : Nat) : Int) = (i : Int) + 1 by omega]
      exact he'
    · have hb' : b < s.heap.objs.size := by
        rcases (show b = e ∨ b = it by simpa using hb) with z | z <;> rw [z] <;> assumption
      rw [upd_ne (Nat.ne_of_lt hb')]
      exact (hf b hb).1
  done := by
    intro X hP hw hK hc i pins s σ H E I hf st hg
    subst hP hw hK
    obtain ⟨⟨old, he⟩, hit, hne⟩ := st
    obtain ⟨xs, hq, hx⟩ := hg
    obtain ⟨its, rv, pt, hz⟩ := I.tuple hq
    have pt : s.heap.IsTuple a its.toArray := pt
    obtain ⟨f0, f1, f2, f3, f4, f5⟩ := hf it (by simp)
    have hl := rv.length
    have hT : s.TypeIs (.ref e) "enumerate" := ⟨_, he, rfl⟩
    unfold pyNext
    refine wpAny_bind (wpAny_attempt (wpAny_callSpecial?_slot (name := Str.ofString "__next__") hT F.slot_enumerate_next (wpAny_call_entry F.slot_enumerate_next hT F.entry_enumerate_next ?_ (F.args_enumerate_next_1 _))))
    show wpAny _ _ (PySem.field (.ref e) 2 >>= _) _ _ _
    refine wpAny_bind (wpAny_field he rfl (x := .ref it) rfl ?_)
    refine wpAny_bind (wpAny_nextOf_tuple_end (I.ok.hd hc) hit pt (by simp; omega) fun h' x eb hx' => ?_)
    obtain ⟨o, ho, hcl⟩ := hx'
    refine wpAny_bind (wpAny_isInstance (T := "StopIteration") (b := true) ⟨o, ho, hcl⟩ isSubtype_stop ?_)
    exact wpAny_pure ⟨rfl, I.turned (t' := s.toks) (fun b o hb q => eb b o hb q) f0 f1 f3 f4 f5⟩
  self := fun A i s Q E st h => let ⟨⟨_, he⟩, _⟩ := st; wpAny_pyIter_enum he h
theorem pi_enumT {X : Cx} {e : Expr} {ta : TA} {p pos tpos : Pos} {elts : List Expr} {kk : Nat} (hg : Gl X "enumerate") (hm : X.mg "enumerate" = none) (ha : PA X [e] ta) (hs : starEach [e] X.env = [(false, eval e X.env)] := by rfl) :
    PI X (.Tuple elts kk tpos) (.Call (.Name "enumerate" p) [e] [] pos) (fun σ H R => ta σ H fun vs H1 => ∃ a xs, vs = [.ref a] ∧ SqT X.K H1 a xs ∧ R (IteT X.K a) H1) := by
  refine ⟨fun pins s σ H R I h => ?_⟩
  refine PyProof.Rows.Call_ (ld_blt I hg hm (show bootBuiltins "enumerate" = some (.type "enumerate") by kernel_rfl) (PyProof.Rows.callWith_type1 (thn (ha.run pos pins s σ H _ I h) fun us s1 ⟨vs, H1, I1, r1, q1⟩ => ?_) hs rfl))
  obtain ⟨a, xs, ex, hq, q⟩ := q1
  subst ex
  cases r1 with
  | cons r rr =>
    cases rr
    cases r
    obtain ⟨its, rv, pt, hz⟩ := I1.tuple hq
    refine enumT_call (begins_tuple a its.toArray) pt fun h' he hit hsz hk => wpAny_pyIter_enum he ?_
    have I2 : Inv X pins σ H1 { s1 with heap := h' } := I1.kept (t' := s1.toks) hk
    refine ⟨s1.heap.objs.size + 1, [s1.heap.objs.size + 1, s1.heap.objs.size], _, _, H1, rfl, I2, turn_enumT a (s1.heap.objs.size + 1) s1.heap.objs.size, ⟨⟨.none, he⟩, ⟨_, hit, rfl, rfl⟩, Nat.succ_ne_self _⟩, fun b hb => ?_, q⟩
    have hle : s1.heap.objs.size ≤ b := by
      rcases (show b = s1.heap.objs.size + 1 ∨ b = s1.heap.objs.size by simpa using hb) with z | z <;> rw [z]
      · exact Nat.le_add_right _ _
      · exact Nat.le_refl _
    exact I1.fpOk hle (I1.hok.fresh hle)
theorem itd_enumT {K : PySem.W.Frag} {G : Gh} {H : Hp} {a : Addr} {xs : List V} {ds : List PyData} {fr : Bool} (h : H a = some (.tup xs)) (hd : DnA K (rg G fr) H xs ds) : ItD K G H (IteT K a) (enumD ds) fr := by
  have sq : ∀ G2 H2, Le G H G2 H2 → SqT K H2 a xs := fun G2 H2 e => SqT.of (e.t _ _ h)
  have hl := hd.length
  have hl2 : (enumD ds).length = xs.length := by unfold enumD; simp [hl]
  refine ⟨fun i G2 H2 hi e => ⟨xs, xs[i]'(by rw [hl2] at hi; exact hi), sq G2 H2 e, by simp⟩, fun i G2 H2 σ Γ v H3 hi e S y => ?_, fun G2 H2 e => ⟨xs, sq G2 H2 e, by rw [hl2]; exact Nat.le_refl _⟩⟩
  obtain ⟨T, x, rfl, hT, rfl, hy⟩ := y
  obtain ⟨d, h1, h2⟩ := (e.dna hd).get (hy xs (sq G2 _ e))
  obtain ⟨G3, e3, S3, h3⟩ := sta_pair S hT (.int (i : Nat)) h2
  refine ⟨G3, _, ?_, e3, S3, h3⟩
  unfold enumD
  rw [List.getElem?_mapIdx, h1]
  rfl
section
variable {X : Cx} {W : WX} {sc : Scope} {N : List Str} {e e2 tg iter : Expr} {pos p : Pos} {f g : DF} {k : DA}
/-- enumerate of a list or a tuple -/
def iEnum (f : DF) : DI := fun Γ => (f Γ).bind fun z => (R.ofO (seqA z.1)).bind fun y => .val ((enumD y.1, y.2), z.2)
theorem ci_enum (C : Cf0 X W sc N) {elts : List Expr} {kk : Nat} {tpos : Pos} (hg : glB sc "enumerate" = true) (hm : X.mg "enumerate" = none) (h : CE X W e f) (hst : starEach [e] X.env = [(false, eval e X.env)] := by rfl) : CI X W (.Tuple elts kk tpos) (.Call (.Name "enumerate" p) [e] [] pos) (iEnum f) := fun Γ => by
  have h := h Γ
  unfold iEnum
  cases hf : f Γ with
  | bad => exact pi_no fun σ H Q ⟨G, S, q⟩ => q
  | exc x =>
    rw [hf] at h
    exact pi_imp (pi_enum (C.gl hg) hm (pa_cons h pa_nil (by rw [hst]; rfl)) hst) fun σ H Q ⟨G, S, q⟩ => ⟨G, S, q⟩
  | val z =>
    rw [hf] at h
    obtain ⟨y, Γ1⟩ := z
    cases hy : seqA y with
    | none =>
      refine pi_no fun σ H Q ⟨G, S, q⟩ => ?_
      · obtain ⟨_, hq, _⟩ := Pst.ofO (show Pst X W G H σ ((R.ofO (seqA y)).bind fun y => R.val ((enumD y.1, y.2), Γ1)) _ from q)
        rw [hy] at hq
        cases hq
    | some w =>
      have key : ∀ {σ H Q}, rdIU X W Γ ((R.val (y, Γ1)).bind fun z => (R.ofO (seqA z.1)).bind fun y => .val ((enumD y.1, y.2), z.2)) σ H Q → ∃ G, Sta X.K G H σ Γ ∧ ∀ G' H', Ext G H G' H' → ∀ J, Sta X.K G' H' σ Γ1 → ItD X.K G' H' J (enumD w.1) w.2 → Q J H' := fun {σ H Q} ⟨G, S, q⟩ => by
        obtain ⟨_, hq, q⟩ := Pst.ofO (show Pst X W G H σ ((R.ofO (seqA y)).bind fun y => R.val ((enumD y.1, y.2), Γ1)) _ from q)
        rw [hy] at hq
        cases hq
        exact ⟨G, S, q⟩
      unfold seqA at hy
      split at hy
      · cases hy
        refine pi_imp (pi_enum (C.gl hg) hm (pa_cons h pa_nil (by rw [hst]; rfl)) hst) fun σ H Q z => ?_
        obtain ⟨G, S, q⟩ := key z
        refine ⟨G, S, fun G' H' e' v S' a => ?_⟩
        obtain ⟨l, xs, rfl, h1, h2⟩ := dn_list a
        exact ⟨l, xs, rfl, (h1.mono (S'.w.rgl _)).sq, q G' H' e' _ S' (itd_enum h1 h2)⟩
      · cases hy
        refine pi_imp (pi_enumT (C.gl hg) hm (pa_cons h pa_nil (by rw [hst]; rfl)) hst) fun σ H Q z => ?_
        obtain ⟨G, S, q⟩ := key z
        refine ⟨G, S, fun G' H' e' v S' a => ?_⟩
        obtain ⟨l, xs, rfl, h1, h2⟩ := dn_tupleH a
        exact ⟨l, xs, rfl, SqT.of h1, q G' H' e' _ S' (itd_enumT h1 h2)⟩
      · cases hy
/-! ## loops -/
def loopU (is : List Nat) (g : DG) (fr : Bool) (b : DS) : List PyData → List Sl → R (Fw × List Sl)
  | [], Γ => .val (.nx, wipeG Γ is)
  | d :: ds, Γ => (R.ofO (g fr d (wipeG Γ is))).bind fun Γ1 => (b Γ1).bind fun z => match z.1 with
    | .nx => loopU is g fr b ds z.2
    | .ct => loopU is g fr b ds z.2
    | .bk => .val (.nx, wipeG z.2 is)
    | .rt r => .val (.rt r, z.2)
def bFor (is : List Nat) (g : DG) (it : DI) (b : DS) : DS := fun Γ => (it Γ).bind fun z => loopU is g z.1.2 b z.1.1 z.2
theorem c1_for (C : Cf X W sc N) (is : List Nat) {body : List Stmt} {it : DI} {ts : List Nat} {gg : DG} {b : DS} (hi : CI X W tg iter it) (hg : CG X tg ts gg) (hb : CS X W body b) (hs : ∀ x, foldedSetIterable iter X.env x = pure x := by intro _; rfl) : C1 X W (.For tg iter body [] pos) (bFor is gg it b) := fun Γ => by
  refine ps_imp (ps_for C.pass C.calm (hi Γ) hg (pss_any fun Γ1 => hb Γ1) hs) fun D σ H ⟨G, S0, q⟩ => ⟨G, S0, (Pst.bind q).imp fun r G1 H1 e1 p1 J S1 I => ?_⟩
  obtain ⟨⟨items, fr⟩, Γ1⟩ := r
  have p1 : Pst X W G1 H1 σ (loopU is gg fr b items Γ1) fun z G' H' => FinU X.K G' H' D z.2 z.1 := p1
  have I : ItD X.K G1 H1 J items fr := I
  let P : Fw × List Sl → Gh → Hp → Prop := fun z G' H' => FinU X.K G' H' D z.2 z.1
  refine ⟨fun i m σ H => m = items.length - i ∧ i ≤ items.length ∧ ∃ G Γ2, Ext G1 H1 G H ∧ Sta X.K G H σ Γ2 ∧ Pst X W G H σ (loopU is gg fr b (items.drop i) Γ2) P, ⟨_, rfl, Nat.zero_le _, G1, Γ1, Ext.rf S1.w, S1, p1⟩, ?_⟩
  rintro i m σ2 H2 ⟨rfl, hi2, G2, Γ2, e2, S2, p2⟩
  by_cases hlt : i < items.length
  · rw [List.drop_eq_getElem_cons hlt] at p2
    unfold loopU at p2
    obtain ⟨Γ3, hg3, p3⟩ := Pst.ofO p2
    refine .inr ⟨I.go i G2 H2 hlt e2.le, fun σ' H' => ∃ G4 Γ4, Ext G1 H1 G4 H' ∧ Sta X.K G4 H' σ' Γ4 ∧ Pst X W G4 H' σ' (loopU is gg fr b (items.drop (i + 1)) Γ4) P, fun σ' H' ⟨G4, Γ4, q1, q2, q3⟩ => ⟨_, ?_, rfl, hlt, G4, Γ4, q1, q2, q3⟩, fun v H3 y => ?_⟩
    · omega
    · obtain ⟨G3, d, hd, e3, S3, dn⟩ := I.yl i G2 H2 σ2 _ v H3 hlt e2.le S2 y
      have hx : d = items[i] := by
        rw [List.getElem?_eq_getElem hlt] at hd
        exact (Option.some.inj hd).symm
      subst hx
      refine ⟨G3, wipeG Γ2 is, fr, items[i], Γ3, S3.wipe is, dn, hg3, fun σ4 _ _ S4 => ⟨Γ3, G3, S4, (Pst.bind (Pst.ext p3 e3)).imp fun z G5 H5 e5 p5 => ?_⟩⟩
      have e15 : Ext G1 H1 G5 H5 := (e2.tr e3).tr e5
      obtain ⟨w, Γ5⟩ := z
      cases w with
      | nx => exact fun σ6 S6 => ⟨G5, Γ5, e15, S6, p5⟩
      | ct => exact fun σ6 S6 => ⟨G5, Γ5, e15, S6, p5⟩
      | bk => exact fun σ6 S6 => p5 G5 H5 (Ext.rf S6.w) σ6 (S6.wipe is)
      | rt r =>
        have q : FinU X.K G5 H5 D Γ5 (.rt r) := p5 G5 H5 (Ext.rf e5.w)
        cases r with
        | d x => exact q
        | c x => exact q
  · have e : i = items.length := by omega
    subst e
    refine .inl ⟨I.st G2 H2 e2.le, ?_⟩
    rw [List.drop_length] at p2
    exact p2 G2 H2 (Ext.rf S2.w) σ2 (S2.wipe is)
/-- while, by a measure given as fuel -/
def loopW (is : List Nat) (c : DT) (b : DS) : Nat → List Sl → R (Fw × List Sl)
  | 0, _ => .bad
  | n + 1, Γ => (c (wipeG Γ is)).bind fun x => if x.1 then (b x.2).bind fun z => match z.1 with
      | .nx => loopW is c b n z.2
      | .ct => loopW is c b n z.2
      | .bk => .val (.nx, wipeG z.2 is)
      | .rt r => .val (.rt r, z.2)
    else .val (.nx, x.2)
def bWhile (is : List Nat) (fuel : List Sl → Nat) (c : DT) (b : DS) : DS := fun Γ => loopW is c b (fuel Γ) Γ
theorem c1_while (C : Cf0 X W sc N) (is : List Nat) (fuel : List Sl → Nat) {test : Expr} {body : List Stmt} {c : DT} {b : DS} (hc : CT X W test c) (hb : CS X W body b) : C1 X W (.While test body [] pos) (bWhile is fuel c b) := fun Γ => by
  refine ps_imp (ps_while C.pass (pt_any fun Γ1 => hc Γ1) (pss_any fun Γ1 => hb Γ1)) fun D σ H ⟨G1, S1, p1⟩ => ?_
  let P : Fw × List Sl → Gh → Hp → Prop := fun z G' H' => FinU X.K G' H' D z.2 z.1
  let Wh : Nat → St → Hp → Prop := fun m σ H => ∃ G Γ2, Sta X.K G H σ Γ2 ∧ Pst X W G H σ (loopW is c b m Γ2) P
  refine ⟨Wh, ⟨fuel Γ, G1, Γ, S1, p1⟩, ?_⟩
  rintro m σ2 H2 ⟨G2, Γ2, S2, p2⟩
  cases m with
  | zero => exact p2.elim
  | succ m =>
    unfold loopW at p2
    refine ⟨wipeG Γ2 is, G2, S2.wipe is, (Pst.bind p2).imp fun x G3 H3 e3 p3 S3 => ?_⟩
    obtain ⟨z, Γ3⟩ := x
    cases z with
    | false => exact itF (p3 G3 H3 (Ext.rf S3.w) σ2 S3)
    | true =>
      refine itT ⟨Wh m, fun σ' H' h => ⟨m, Nat.lt_succ_self m, h⟩, Γ3, G3, S3, (Pst.bind (show Pst X W G3 H3 σ2 ((b Γ3).bind fun z => match z.1 with
      | .nx => loopW is c b m z.2
      | .ct => loopW is c b m z.2
      | .bk => .val (.nx, wipeG z.2 is)
      | .rt r => .val (.rt r, z.2)) P from p3)).imp fun z G5 H5 e5 p5 => ?_⟩
      obtain ⟨w, Γ5⟩ := z
      cases w with
      | nx => exact fun σ6 S6 => ⟨G5, Γ5, S6, p5⟩
      | ct => exact fun σ6 S6 => ⟨G5, Γ5, S6, p5⟩
      | bk => exact fun σ6 S6 => p5 G5 H5 (Ext.rf S6.w) σ6 (S6.wipe is)
      | rt r =>
        have q : FinU X.K G5 H5 D Γ5 (.rt r) := p5 G5 H5 (Ext.rf e5.w)
        cases r with
        | d x => exact q
        | c x => exact q
end
end PD


set_option Elab.async false
set_option linter.all false
set_option maxRecDepth 100000
set_option maxHeartbeats 4000000
set_option autoImplicit false
namespace PD
open PySem L2
/-! ## what a def promises -/
abbrev RN (N : Hp) : Rg := fun a o => N a = some o
abbrev Rg0 : Rg := fun _ _ => False
def NewIn (B N H H' : Hp) : Prop := ∀ a o, N a = some o → H' a = some o ∧ (H a = none ∨ B a = some o)
inductive Ar where
  | d (x : PyData)
  | n (x : PyData)
  | c (x : Cl)
/-- (once: what holds no list or dict within) -/
def Cl.fl (_ : Cl) : Bool := true
structure ArgsU (K : PySem.W.Frag) (H : Hp) (vs : List V) (as : List Ar) (F : Nat → List Addr) (L : List Addr) (B : Hp) : Prop where
  len : vs.length = as.length
  dat : ∀ (i : Nat) (x : PyData), as[i]? = some (Ar.d x) → ∃ v, vs[i]? = some v ∧ Dn K (fun a o => H a = some o ∧ a ∉ L) H v x
  cel : ∀ (i : Nat) (c : Cl), as[i]? = some (Ar.c c) → ∃ v, vs[i]? = some v ∧ c.ok K (RN B) H v (F i)
  emp : ∀ i : Nat, (∀ c, as[i]? ≠ some (Ar.c c)) → F i = []
  all : ∀ i p, p ∈ F i → p ∈ L
  al : ∀ p, p ∈ L → H p ≠ none
  dj : ∀ i j p, p ∈ F i → p ∈ F j → i = j
  nat : ∀ (i : Nat) (x : PyData), as[i]? = some (Ar.n x) → ∃ v, vs[i]? = some v ∧ Dn K (RN B) H v x
  bok : ∀ a o, B a = some o → H a = some o ∧ a ∉ L
structure PostU (K : PySem.W.Frag) (H : Hp) (vs : List V) (F : Nat → List Addr) (L : List Addr) (B : Hp) (H' N : Hp) (Z : List Sl) (F' : Nat → List Addr) : Prop where
  keep : ∀ a o, H a = some o → a ∉ L → H' a = some o
  pal : ∀ a, a ∈ L → H' a ≠ none
  t : TupLe H H'
  new : NewIn B N H H'
  cel : ∀ (i : Nat) (c : Cl), Z[i]? = some (Sl.io c) → ∃ v, vs[i]? = some v ∧ c.ok K (RN N) H' v (F' i)
  al : ∀ i p, p ∈ F' i → H' p ≠ none ∧ N p = none ∧ (p ∈ L ∨ H p = none)
  dj : ∀ i j p, p ∈ F' i → p ∈ F' j → i = j
def RsOk (K : PySem.W.Frag) (N H' : Hp) (Q : VK) : Rs → Prop
  | .d d => ∀ v, Dn K (RN N) H' v d → Q v H'
  | .c c => ∀ v H2, NewC K (RN N) H' c v H2 → Q v H2
def spU (K : PySem.W.Frag) (mg : Str → Option Value) (m : List Ar → R (Rs × List Sl)) : Sp := fun vs H Q E => ∃ as F L B, ArgsU K H vs as F L B ∧ match m as with
  | .bad => False
  | .exc x => ∀ H' N F' C d, PostU K H vs F L B H' N x.st F' → mg x.cls = some (.ref C) → XdOk K (RN N) H' d x.flds → E (.ref C) d H'
  | .val z => ∀ H' N F', PostU K H vs F L B H' N z.2 F' → RsOk K N H' Q z.1
/-! ## a def's body -/
def scD : PyData → Bool
  | .none => true
  | .bool _ => true
  | .int _ => true
  | .str _ => true
  | _ => false
theorem scD_flat {d : PyData} (h : scD d = true) : flat d = true := by cases d <;> first | rfl | cases h
def arS : Ar → Sl
  | .d x => .dat (scD x) x
  | .n x => .dat true x
  | .c c => .io c
def initS (n : Nat) (as : List Ar) : List Sl := as.map arS ++ List.replicate (n - as.length) .un
def cellsAt : List Ar → List Sl → Option (List Sl)
  | [], _ => some []
  | .d _ :: as, _ :: Γ => (cellsAt as Γ).map (.un :: ·)
  | .n _ :: as, _ :: Γ => (cellsAt as Γ).map (.un :: ·)
  | .c _ :: as, .io c :: Γ => (cellsAt as Γ).map (.io c :: ·)
  | _, _ => none
theorem cellsAt_get : ∀ {as : List Ar} {Γ Z : List Sl} {i : Nat} {c : Cl}, cellsAt as Γ = some Z → Z[i]? = some (.io c) → Γ[i]? = some (.io c) ∧ ∃ c0, as[i]? = some (.c c0)
  | [], Γ, Z, i, c, h, hz => by
    cases h
    simp at hz
  | .d x :: as, [], Z, i, c, h, hz => by cases h
  | .d x :: as, g :: Γ, Z, i, c, h, hz => by
    have h : (cellsAt as Γ).map (.un :: ·) = some Z := h
    cases e : cellsAt as Γ with
    | none => rw [e] at h; cases h
    | some Y =>
      rw [e] at h
      cases h
      cases i with
      | zero => simp at hz
      | succ i => exact cellsAt_get (i := i) e (by simpa using hz)
  | .n x :: as, [], Z, i, c, h, hz => by cases h
  | .n x :: as, g :: Γ, Z, i, c, h, hz => by
    have h : (cellsAt as Γ).map (.un :: ·) = some Z := h
    cases e : cellsAt as Γ with
    | none => rw [e] at h; cases h
    | some Y =>
      rw [e] at h
      cases h
      cases i with
      | zero => simp at hz
      | succ i => exact cellsAt_get (i := i) e (by simpa using hz)
  | .c x :: as, [], Z, i, c, h, hz => by cases h
  | .c x :: as, .io q :: Γ, Z, i, c, h, hz => by
    have h : (cellsAt as Γ).map (.io q :: ·) = some Z := h
    cases e : cellsAt as Γ with
    | none => rw [e] at h; cases h
    | some Y =>
      rw [e] at h
      cases h
      cases i with
      | zero => exact ⟨hz, x, rfl⟩
      | succ i => exact cellsAt_get (i := i) e (by simpa using hz)
  | .c x :: as, .un :: Γ, Z, i, c, h, hz => by cases h
  | .c x :: as, .dat _ _ :: Γ, Z, i, c, h, hz => by cases h
  | .c x :: as, .own _ :: Γ, Z, i, c, h, hz => by cases h
def fwR : Fw → Option Rs
  | .nx => some (.d .none)
  | .rt r => some r
  | _ => none
def endB (as : List Ar) : R (Fw × List Sl) → R (Rs × List Sl)
  | .bad => .bad
  | .exc x => (R.ofO (cellsAt as x.st)).bind fun Z => .exc ⟨x.cls, x.flds, Z⟩
  | .val z => (R.ofO (fwR z.1)).bind fun r => (R.ofO (cellsAt as z.2)).bind fun Z => .val (r, Z)
@[irreducible] def runB (n np : Nat) (b : DS) (as : List Ar) : R (Rs × List Sl) := (R.req (as.length == np)).bind fun _ => endB as (b (initS n as))

theorem start_get {N : List Str} {vs : List V} {i : Nat} (h : i < vs.length) : (L2.start N vs)[i]? = (vs.map some)[i]? := by
  unfold L2.start
  rw [List.getElem?_append_left (by simpa using h)]
section
variable {P : Program} {w : World} {K : PySem.W.Frag} {mg : Str → Option Value} {base : Heap} {x qual : Str} {params : Arguments} {body : List Stmt} {scope : Scope} {dvs : List V} {kws : List (Str × V)} {f : Addr} {fd : FuncData} {N ps : List Str} {k : Nat}
structure Here (X : Cx) (W : WX) (P : Program) (w : World) (K : PySem.W.Frag) (mg : Str → Option Value) (base : Heap) (scope : Scope) (N : List Str) (k : Nat) : Prop where
  cf : Cf X W scope N
  prog : X.prog = P
  w : X.w = w
  K : X.K = K
  mg : X.mg = mg
  base : X.base = base
  room : Room k X.A
  fn : ∀ x, X.fn x = true
  stk : X.stack = X.env :: X.outer
  frm : X.env.frame = some X.env.locals
theorem here_of (S : FnScope N ps scope) {cdv : Value} {A : Around} {outer : List Env} {s : Shared} {H : Hp} {E : XK} (hr : Room k (A.deeper (PyProof.Rows.envOfC qual scope s.heap.objs.size f cdv))) :
    Here (cxOf (L2.CX P w) P w K mg base N qual scope f cdv A outer s H E) (fun cls d _ H => E cls d H) P w K mg base scope N k := by
  refine ⟨⟨⟨rfl, rfl, S.nd, takes_of rfl rfl rfl rfl, ?_, passes_of rfl, ?_⟩, rfl⟩, rfl, rfl, rfl, rfl, rfl, hr, fun x => rfl, rfl, rfl⟩
  · have := hr.un
    show (A.deeper _).units + 64 < cLine
    omega
  · have := hr.un
    show (A.deeper _).units + 150 < cLine
    omega
theorem fn_len {np nn : Nat} {b : DS} : ∀ vs H Q E, spU K mg (runB nn np b) vs H Q E → vs.length = np := fun vs H Q E ⟨as, Fp, L, B, A, h⟩ => by
  rw [A.len]
  by_cases e : as.length = np
  · exact e
  · have : (as.length == np) = false := by simpa using e
    unfold runB at h
    rw [this] at h
    exact h.elim
theorem fn_pre {b : DS} (hle : ps.length ≤ N.length) {X : Cx} (eK : X.K = K) (eM : X.mg = mg) {vs : List V} {H : Hp} {Q : VK} {E : XK} (hsp : spU K mg (runB N.length ps.length b) vs H Q E) :
    ∃ Γ, rdB X (fun cls d _ H => E cls d H) Γ (b Γ) { nx := fun _ H' => Q .non H', rt := Q } (L2.start N vs) H := by
  subst eK eM
  have hvl := fn_len vs H Q E hsp
  obtain ⟨as, Fp, L, B, AU, hq⟩ := hsp
  have hal : as.length = ps.length := AU.len.symm.trans hvl
  have hq : match endB as (b (initS N.length as)) with
    | .bad => False
    | .exc x => ∀ H' N F' C d, PostU X.K H vs Fp L B H' N x.st F' → X.mg x.cls = some (.ref C) → XdOk X.K (RN N) H' d x.flds → E (.ref C) d H'
    | .val z => ∀ H' N F', PostU X.K H vs Fp L B H' N z.2 F' → RsOk X.K N H' Q z.1 := by
    unfold runB at hq
    rw [show (as.length == ps.length) = true by simpa using hal] at hq
    exact hq
  refine ⟨initS N.length as, ?_⟩
  let cv : Nat → Option V := fun i => match as[i]? with
    | some (.c _) => vs[i]?
    | _ => none
  let G : Gh := ⟨H, L, cv, B, fun _ => none⟩
  have wf : Wf G H := ⟨fun a o h _ => h, fun a o h => ⟨(AU.bok a o h).1, trivial⟩, fun a h => AU.al a h, fun a h => AU.al a h, fun a o h => (by cases h)⟩
  have hg : RgLe (fun a o => H a = some o ∧ a ∉ L) (rg G false) := fun a o h => .inr h
  have st : Sta X.K G H (L2.start N vs) (initS N.length as) := by
    refine ⟨Fp, wf, ?_, fun i s h => ?_, fun i p h => ⟨AU.al p (AU.all i p h), (by cases q : B p with | none => exact q | some u => exact absurd (AU.all i p h) (AU.bok p u q).2), .inl (AU.all i p h)⟩, fun i p h => rfl, AU.dj⟩
    · unfold initS L2.start
      simp [AU.len]
    · by_cases hi : i < as.length
      · have hi2 : i < vs.length := by rw [AU.len]; exact hi
        rw [start_get hi2, List.getElem?_map]
        unfold initS at h
        rw [List.getElem?_append_left (by simpa using hi), List.getElem?_map] at h
        cases ha : as[i]? with
        | none => rw [ha] at h; cases h
        | some y =>
          rw [ha] at h
          cases h
          cases y with
          | d x =>
            obtain ⟨v, h1, h2⟩ := AU.dat i x ha
            rw [h1]
            refine ⟨AU.emp i (by rw [ha]; intro c z; cases z), v, rfl, ?_⟩
            cases hx : scD x with
            | true => exact Dn.free h2 (scD_flat hx)
            | false => exact h2.mono hg (TupLe.rf _)
          | n x =>
            obtain ⟨v, h1, h2⟩ := AU.nat i x ha
            rw [h1]
            exact ⟨AU.emp i (by rw [ha]; intro c z; cases z), v, rfl, h2⟩
          | c c =>
            obtain ⟨v, h1, h2⟩ := AU.cel i c ha
            rw [h1]
            refine ⟨v, rfl, ?_, h2⟩
            show cv i = some v
            simp only [cv, ha, h1]
      · unfold initS at h
        rw [List.getElem?_append_right (by simpa using hi)] at h
        have : s = .un := List.eq_of_mem_replicate (List.mem_of_getElem? h)
        subst this
        exact AU.emp i (by rw [List.getElem?_eq_none (by omega)]; intro c z; cases z)
  have post : ∀ G' H' σ' Γ' Z, Ext G H G' H' → Sta X.K G' H' σ' Γ' → cellsAt as Γ' = some Z → ∃ F', PostU X.K H vs Fp L B H' G'.N Z F' := fun G' H' σ' Γ' Z e ⟨A', S'⟩ hz => by
    have h0 : G'.H0 = H := e.h0
    have hP : G'.P = L := e.p
    refine ⟨fun i => match Z[i]? with | some (.io _) => A' i | _ => [], fun a o h hp => e.w.keep a o (by rw [h0]; exact h) (by rw [hP]; exact hp), fun a ha => e.w.pal a (by rw [hP]; exact ha), e.t, fun a o h => ⟨(e.w.new a o h).1, (e.nn a o h).elim .inr .inl⟩, fun i c hc => ?_, fun i p hp => ?_, fun i j p hi hj => ?_⟩
    · obtain ⟨g1, c0, g2⟩ := cellsAt_get hz hc
      obtain ⟨v, q1, q2, q3⟩ := S'.sl i _ g1
      have q2 : G'.I i = some v := q2
      rw [e.i] at q2
      have q2 : cv i = some v := q2
      simp only [cv, g2] at q2
      refine ⟨v, q2, ?_⟩
      simp only [hc]
      exact q3
    · have hp : p ∈ (match Z[i]? with | some (.io _) => A' i | _ => []) := hp
      split at hp
      · rename_i c hc
        obtain ⟨q1, q2, q3⟩ := S'.al i p hp
        refine ⟨q1, q2, ?_⟩
        rw [hP, h0] at q3
        exact q3
      · cases hp
    · have hi : p ∈ (match Z[i]? with | some (.io _) => A' i | _ => []) := hi
      have hj : p ∈ (match Z[j]? with | some (.io _) => A' j | _ => []) := hj
      split at hi
      · split at hj
        · exact S'.dj i j p hi hj
        · cases hj
      · cases hi
  refine ⟨G, st, ?_⟩
  cases hm : b (initS N.length as) with
  | bad => rw [hm] at hq; exact hq
  | exc ex =>
    rw [hm] at hq
    intro G' H' σ' C d e S' g1 g2
    cases hz : cellsAt as ex.st with
    | none =>
      have hq : (match (R.ofO (cellsAt as ex.st)).bind (fun Z => (R.exc ⟨ex.cls, ex.flds, Z⟩ : R (Rs × List Sl))) with | .bad => False | .exc x => _ | .val z => _) := hq
      rw [hz] at hq
      exact hq.elim
    | some Z =>
      have hq : (match (R.ofO (cellsAt as ex.st)).bind (fun Z => (R.exc ⟨ex.cls, ex.flds, Z⟩ : R (Rs × List Sl))) with | .bad => False | .exc x => _ | .val z => _) := hq
      rw [hz] at hq
      obtain ⟨F', hp⟩ := post G' H' σ' ex.st Z e S' hz
      exact hq H' G'.N F' C d hp g1 g2
  | val r =>
    rw [hm] at hq
    intro G' H' e
    obtain ⟨w, Γ'⟩ := r
    have hq : (match (R.ofO (fwR w)).bind (fun r => (R.ofO (cellsAt as Γ')).bind fun Z => (R.val (r, Z) : R (Rs × List Sl))) with | .bad => False | .exc x => _ | .val z => _) := hq
    cases hz : cellsAt as Γ' with
    | none =>
      rw [hz] at hq
      cases hw : fwR w <;> rw [hw] at hq <;> exact hq.elim
    | some Z =>
      rw [hz] at hq
      have fin : ∀ r, fwR w = some r → ∀ σ', Sta X.K G' H' σ' Γ' → RsOk X.K G'.N H' Q r := fun r hr σ' S' => by
        rw [hr] at hq
        obtain ⟨F', hp⟩ := post G' H' σ' Γ' Z e S' hz
        exact hq H' G'.N F' hp
      cases w with
      | nx => exact fun σ' S' => fin _ rfl σ' S' .non .non
      | bk => exact hq.elim
      | ct => exact hq.elim
      | rt r =>
        cases r with
        | d x => exact fun σ' v S' hv => fin _ rfl σ' S' v hv
        | c x => exact fun σ' v H2 S' hn => fin _ rfl σ' S' v H2 hn
theorem fn_u (F : FunD K x qual params body scope dvs kws f fd) (S : FnScope N ps scope) {b : DS} (hle : ps.length ≤ N.length) (hb : ∀ X W, Here X W P w K mg base scope N k → CS X W body b) :
    FnOk P w K mg base (L2.CX P w) (k + 1) f fd ps (spU K mg (runB N.length ps.length b)) :=
  F.ok S fn_len fun cdv A outer s H vs Q E hr hsp => by
    obtain ⟨Γ, h⟩ := fn_pre hle (X := cxOf (L2.CX P w) P w K mg base N qual scope f cdv A outer s H E) rfl rfl hsp
    exact ⟨_, hb _ _ (here_of S hr) Γ, h⟩

end
end PD


set_option Elab.async false
set_option linter.all false
set_option maxRecDepth 100000
set_option maxHeartbeats 4000000
set_option autoImplicit false
namespace PD
open PySem L2
/-! ## calls of one's own defs -/
def Clee (X : Cx) (x : Str) (dvs : List V) (sp : Sp) : Prop :=
  ∃ (k : Nat) (f : Addr) (fd : FuncData) (ps : List Str) (ds : List Value), FnOk X.prog X.w X.K X.mg X.base (L2.CX X.prog X.w) k f fd ps sp ∧ Room k X.A ∧ X.mg x = some (.ref f) ∧ PySem.W.keepIn X.K (.ref f) = true ∧ Binds X.K fd ps ds ∧ Vals dvs ds
def jn (N N' : Hp) : Hp := fun a => match N a with
  | some o => some o
  | none => N' a
theorem jn_left {N N' : Hp} {a : Addr} {o : HO} (h : N a = some o) : jn N N' a = some o := by unfold jn; rw [h]
theorem jn_right {N N' : Hp} {a : Addr} (h : N a = none) : jn N N' a = N' a := by unfold jn; rw [h]
theorem jn_cases {N N' : Hp} {a : Addr} {o : HO} (h : jn N N' a = some o) : N a = some o ∨ (N a = none ∧ N' a = some o) := by
  cases q : N a with
  | some u => rw [jn_left q] at h; exact .inl h
  | none => rw [jn_right q] at h; exact .inr ⟨rfl, h⟩
theorem Same.tup {H H' : Hp} (s : Same H H') : TupLe H H' := fun a xs h => s a _ h
theorem grow_call {G : Gh} {H H' N : Hp} (w : Wf G H) (s : Same H H') (n : NewIn G.N N H H') : Grow G H (jn G.N N) H' [] ∧ RgLe (RN N) (RN (jn G.N N)) := by
  refine ⟨⟨fun a o h _ => s a o h, fun _ h => absurd h (by simp), Same.tup s, fun a o h => jn_left h, fun a o h => ?_⟩, fun a o h => ?_⟩
  · rcases jn_cases h with h | ⟨h1, h2⟩
    · exact ⟨s a o (w.new a o h).1, .inl h⟩
    · exact ⟨(n a o h2).1, (n a o h2).2.elim .inr .inl⟩
  · show jn G.N N a = some o
    cases q : G.N a with
    | none => rw [jn_right q]; exact h
    | some u =>
      rcases (n a o h).2 with z | z
      · have := (w.new a u q).1
        rw [z] at this
        cases this
      · exact jn_left z
theorem call_end {K : PySem.W.Frag} {G : Gh} {H H' N' : Hp} {σ : St} {Γ : List Sl} (S : Sta K G H σ Γ) (s : Same H H') (n : NewIn G.N N' H H') :
    ∃ G', Sta K G' H' σ Γ ∧ Ext G H G' H' ∧ RgLe (RN N') (rg G' true) := by
  obtain ⟨g, l⟩ := grow_call S.w s n
  obtain ⟨S', e⟩ := S.grow g
  exact ⟨_, S', e, l⟩
theorem avs_split {K : PySem.W.Frag} {G : Gh} {H : Hp} {σ : St} : ∀ {l1 l2 : List AV} {vs : List V}, AVs K G H σ vs (l1 ++ l2) → ∃ v1 v2, vs = v1 ++ v2 ∧ AVs K G H σ v1 l1 ∧ AVs K G H σ v2 l2
  | [], _, vs, h => ⟨[], vs, rfl, .nil, h⟩
  | a :: l1, l2, _, .cons h r => by
    obtain ⟨v1, v2, rfl, q1, q2⟩ := avs_split r
    exact ⟨_ :: v1, v2, rfl, .cons h q1, q2⟩
/-- arguments as data; the slot i is not among them -/
def rdDs (Γ : List Sl) (i : Option Nat) : List AV → Option (List PyData)
  | [] => some []
  | .d _ x :: as => (rdDs Γ i as).map (x :: ·)
  | .s j :: as => if some j = i then none else (rdD Γ (.s j)).bind fun x => (rdDs Γ i as).map (x :: ·)
theorem rdDs_len {Γ : List Sl} {i : Option Nat} : ∀ {as : List AV} {ds : List PyData}, rdDs Γ i as = some ds → as.length = ds.length
  | [], _, h => by cases h; rfl
  | .d _ x :: as, ds, h => by
    have h : (rdDs Γ i as).map (x :: ·) = some ds := h
    cases e : rdDs Γ i as with
    | none => rw [e] at h; cases h
    | some xs => rw [e] at h; cases h; simp [rdDs_len e]
  | .s j :: as, ds, h => by
    unfold rdDs at h
    split at h
    · cases h
    · cases q : rdD Γ (.s j) with
      | none => rw [q] at h; cases h
      | some x =>
        rw [q] at h
        have h : (rdDs Γ i as).map (x :: ·) = some ds := h
        cases e : rdDs Γ i as with
        | none => rw [e] at h; cases h
        | some xs => rw [e] at h; cases h; simp [rdDs_len e]
/-- the lists lent and the data lie outside of the footprint -/
theorem rdDs_ok {K : PySem.W.Frag} {G : Gh} {H : Hp} {σ : St} {Γ : List Sl} {i : Option Nat} {fp : List Addr} (S : Sta K G H σ Γ) (hr : ∀ fr a o, rg G fr a o → a ∉ fp) (hs : ∀ j es p vs, some j ≠ i → rdD Γ (.s j) = some (.list es) → σ[j]? = some (some (.ref p)) → H p = some (.lst vs) → p ∉ fp) :
    ∀ {as : List AV} {ds : List PyData} {vs : List V}, rdDs Γ i as = some ds → AVs K G H σ vs as → DnA K (fun a o => H a = some o ∧ a ∉ fp) H vs ds
  | [], _, _, h, .nil => by cases h; exact .nil
  | .d fr x :: as, ds, _, h, .cons q r => by
    have h : (rdDs Γ i as).map (x :: ·) = some ds := h
    cases e : rdDs Γ i as with
    | none => rw [e] at h; cases h
    | some xs =>
      rw [e] at h
      cases h
      exact .cons (Dn.mono (fun b o z => ⟨S.w.rgl fr b o z, hr fr b o z⟩) (TupLe.rf _) q) (rdDs_ok S hr hs e r)
  | .s j :: as, ds, _, h, .cons (v := v) q r => by
    unfold rdDs at h
    split at h
    · cases h
    · rename_i hj
      cases e1 : rdD Γ (.s j) with
      | none => rw [e1] at h; cases h
      | some x =>
        rw [e1] at h
        have h : (rdDs Γ i as).map (x :: ·) = some ds := h
        cases e : rdDs Γ i as with
        | none => rw [e] at h; cases h
        | some xs =>
          rw [e] at h
          cases h
          refine .cons ?_ (rdDs_ok S hr hs e r)
          have q : σ[j]? = some (some v) := q
          have hx : ∃ es, x = .list es := by
            unfold rdD at e1
            simp only at e1
            split at e1
            · cases e1; exact ⟨_, rfl⟩
            · cases e1; exact ⟨_, rfl⟩
            · cases e1
          obtain ⟨es, rfl⟩ := hx
          obtain ⟨p, vs, rfl, g1, g2⟩ := S.slotL e1 q
          exact .lst (.inl ⟨g1, hs j es p vs hj e1 q g1⟩) (g2.mono (fun b o z => ⟨S.w.rgl true b o z, hr true b o z⟩) (TupLe.rf _))
theorem dna_at {K : PySem.W.Frag} {G : Rg} {H : Hp} {vs : List V} {ds : List PyData} {i : Nat} {x : PyData} (h : DnA K G H vs ds) (hx : (ds.map Ar.d)[i]? = some (.d x)) : ∃ v, vs[i]? = some v ∧ Dn K G H v x := by
  rw [List.getElem?_map] at hx
  cases e : ds[i]? with
  | none => rw [e] at hx; cases hx
  | some y =>
    rw [e] at hx
    cases hx
    exact h.get' e
theorem argsD {K : PySem.W.Frag} {H : Hp} {vs : List V} {ds : List PyData} (h : DnA K (fun a o => H a = some o ∧ a ∉ []) H vs ds) {B : Hp} (hB : ∀ a o, B a = some o → H a = some o) : ArgsU K H vs (ds.map Ar.d) (fun _ => []) [] B where
  len := by rw [List.length_map]; exact h.length
  dat := fun i x hx => dna_at h hx
  cel := fun i c hc => by
    rw [List.getElem?_map] at hc
    cases e : ds[i]? <;> rw [e] at hc <;> cases hc
  emp := fun _ _ => rfl
  all := fun _ _ h => h
  al := fun p h => absurd h (by simp)
  dj := fun i j p h => absurd h (by simp)
  nat := fun i x hx => by
    rw [List.getElem?_map] at hx
    cases e : ds[i]? <;> rw [e] at hx <;> cases hx
  bok := fun a o h => ⟨hB a o h, by simp⟩
/-- an exception leaves a call: the slots are those of the caller -/
def R.atX {α : Type} (Γ : List Sl) : R α → R α
  | .exc x => .exc ⟨x.cls, x.flds, Γ⟩
  | m => m
section
variable {X : Cx} {W : WX} {sc : Scope} {N : List Str} {x : Str} {e : Expr} {es : List Expr} {p pos : Pos} {k : DA} {dvs : List V} {dds : List PyData} {m : List Ar → R (Rs × List Sl)}
/-- what a call of data only asks and leaves -/
theorem callD_core {Γ : List Sl} {G : Gh} {H : Hp} {σ : St} {as : List AV} {ds : List PyData} {vs : List V} {Q : VK} (hdv : ∀ G H, DnA X.K G H dvs dds) (S : Sta X.K G H σ Γ) (av : AVs X.K G H σ vs as) (hd : rdDs Γ none as = some ds)
    (hp : Pst X W G H σ ((m ((ds ++ dds).map Ar.d)).atX Γ) fun z G' H' => Sta X.K G' H' σ Γ → RsOk X.K G'.N H' Q z.1) : spU X.K X.mg m (vs ++ dvs) H Q (fun cls d H => W cls d σ H) := by
  have h1 : DnA X.K (fun a o => H a = some o ∧ a ∉ []) H vs ds := rdDs_ok (i := none) (fp := []) S (fun _ _ _ _ => by simp) (fun _ _ _ _ _ _ _ _ => by simp) hd av
  refine ⟨_, _, _, G.N, argsD (h1.append (hdv _ _)) (fun a o h => (S.w.new a o h).1), ?_⟩
  cases hm : m ((ds ++ dds).map Ar.d) with
  | bad => rw [hm] at hp; exact hp
  | exc y =>
    rw [hm] at hp
    intro H' N' F' C d P g1 g2
    obtain ⟨G', S', e', l⟩ := call_end S (fun a o h => P.keep a o h (by simp)) P.new
    refine hp G' H' σ C d e' S' g1 ?_
    rcases g2 with ⟨a, fs, q1, q2, q3, q4⟩ | q
    · exact .inl ⟨a, fs, q1, l _ _ q2, q3, q4.mono l (TupLe.rf _)⟩
    · exact .inr q
  | val z =>
    rw [hm] at hp
    intro H' N' F' P
    obtain ⟨G', S', e', l⟩ := call_end S (fun a o h => P.keep a o h (by simp)) P.new
    have q := hp G' H' e' S'
    cases hz : z.1 with
    | d y => rw [hz] at q; exact fun v hv => q v (hv.mono l (TupLe.rf _))
    | c y => rw [hz] at q; exact fun v H2 ⟨fp, n1, n2, n3⟩ => q v H2 ⟨fp, n1, n2, Cl.mono n3 l (fun _ _ => rfl) (TupLe.rf _)⟩
def rsD : Rs → Option PyData
  | .d x => some x
  | _ => none
def rsC : Rs → Option Cl
  | .c x => some x
  | _ => none
/-- f(..), an answer that is data -/
def eCall (m : List Ar → R (Rs × List Sl)) (dds : List PyData) (k : DA) : DF := fun Γ => (k Γ).bind fun z => (R.ofO (rdDs z.2 none z.1)).bind fun ds => ((m ((ds ++ dds).map Ar.d)).atX z.2).bind fun r => (R.ofO (rsD r.1)).bind fun y => .val (.d true y, z.2)
theorem ce_call (C : Cf0 X W sc N) (hc : Clee X x dvs (spU X.K X.mg m)) (hg : glB sc x = true) (hdv : ∀ G H, DnA X.K G H dvs dds) (ha : CA X W (e :: es) k)
    (hdb : (x == ("__debug__" : Str)) = false := by decide +kernel) (he : starEach (e :: es) X.env = (false, eval e X.env) :: starEach es X.env := by rfl) (hpl : (backTo pos (starEach es X.env)).any (·.1) = false := by rfl) : CE X W (.Call (.Name x p) (e :: es) [] pos) (eCall m dds k) := fun Γ => by
  obtain ⟨k', f, fd, ps, dss, F, hr, hm, hk, hb, hd⟩ := hc
  refine pe_imp (pe_callSD (E := fun σ cls d H => W cls d σ H) F hr (C.gl hg) hm hk hb hd (fun σ => passAt C.tk σ) (ha Γ) hdb he hpl) fun σ H Q ⟨G, S, q⟩ => ⟨G, S, (Pst.bind q).imp fun z G1 H1 e1 p1 vs S1 av => ?_⟩
  obtain ⟨ds, hds, p1⟩ := Pst.ofO p1
  refine callD_core hdv S1 av hds ((Pst.bind p1).imp fun r G2 H2 e2 p2 S2 => ?_)
  obtain ⟨y, hy, p2⟩ := Pst.ofO p2
  cases hz : r.1 with
  | d w =>
    rw [hz] at hy
    cases hy
    exact fun v hv => p2 G2 H2 (Ext.rf S2.w) v S2 hv
  | c w => rw [hz] at hy; cases hy
/-- f(..), an answer that is new -/
def nCall (m : List Ar → R (Rs × List Sl)) (dds : List PyData) (k : DA) : DC := fun Γ => (k Γ).bind fun z => (R.ofO (rdDs z.2 none z.1)).bind fun ds => ((m ((ds ++ dds).map Ar.d)).atX z.2).bind fun r => (R.ofO (rsC r.1)).bind fun y => .val (y, z.2)
theorem cc_call (C : Cf0 X W sc N) (hc : Clee X x dvs (spU X.K X.mg m)) (hg : glB sc x = true) (hdv : ∀ G H, DnA X.K G H dvs dds) (ha : CA X W (e :: es) k)
    (hdb : (x == ("__debug__" : Str)) = false := by decide +kernel) (he : starEach (e :: es) X.env = (false, eval e X.env) :: starEach es X.env := by rfl) (hpl : (backTo pos (starEach es X.env)).any (·.1) = false := by rfl) : CC X W (.Call (.Name x p) (e :: es) [] pos) (nCall m dds k) := fun Γ => by
  obtain ⟨k', f, fd, ps, dss, F, hr, hm, hk, hb, hd⟩ := hc
  refine pe_imp (pe_callSD (E := fun σ cls d H => W cls d σ H) F hr (C.gl hg) hm hk hb hd (fun σ => passAt C.tk σ) (ha Γ) hdb he hpl) fun σ H Q ⟨G, S, q⟩ => ⟨G, S, (Pst.bind q).imp fun z G1 H1 e1 p1 vs S1 av => ?_⟩
  obtain ⟨ds, hds, p1⟩ := Pst.ofO p1
  refine callD_core hdv S1 av hds ((Pst.bind p1).imp fun r G2 H2 e2 p2 S2 => ?_)
  obtain ⟨y, hy, p2⟩ := Pst.ofO p2
  cases hz : r.1 with
  | c w =>
    rw [hz] at hy
    cases hy
    exact fun v H3 hn => p2 G2 H2 (Ext.rf S2.w) v H3 S2 hn
  | d w => rw [hz] at hy; cases hy
end
end PD


set_option Elab.async false
set_option linter.all false
set_option maxRecDepth 100000
set_option maxHeartbeats 4000000
set_option autoImplicit false
namespace PD
open PySem L2
/-! ## calls with a cell -/
theorem Sta.cellU {K : PySem.W.Frag} {G : Gh} {H : Hp} {σ : St} {Γ : List Sl} {c : Cl} (S : Sta K G H σ Γ) (i : Nat) (io : Bool) (hi : Γ[i]? = some (if io then .io c else .own c)) :
    ∃ v fp, σ[i]? = some (some v) ∧ c.ok K (RgN G) H v fp ∧ (∀ p ∈ fp, H p ≠ none) ∧ (∀ fr a o, rg G fr a o → a ∉ fp) ∧ (∀ (j : Nat) es p vs, j ≠ i → (Γ[j]? = some (.own (.lst es)) ∨ Γ[j]? = some (.io (.lst es))) → σ[j]? = some (some (.ref p)) → H p = some (.lst vs) → p ∉ fp) ∧
      ∀ H' N' fp' c', (∀ a o, H a = some o → a ∉ fp → H' a = some o) → (∀ a ∈ fp, H' a ≠ none) → TupLe H H' → NewIn G.N N' H H' → c'.ok K (RN N') H' v fp' → (∀ p ∈ fp', H' p ≠ none ∧ N' p = none ∧ (p ∈ fp ∨ H p = none)) →
        ∃ G', Sta K G' H' σ (Γ.set i (if io then .io c' else .own c')) ∧ Ext G H G' H' ∧ RgLe (RN N') (rg G' true) := by
  obtain ⟨A, S⟩ := S
  have key : ∃ v, σ[i]? = some (some v) ∧ c.ok K (RgN G) H v (A i) ∧ (io = true → G.I i = some v) ∧ (io = false → ∀ p ∈ A i, G.H0 p = none) := by
    cases io with
    | true =>
      obtain ⟨v, h1, h2, h3⟩ := S.sl i _ hi
      exact ⟨v, h1, h3, fun _ => h2, fun h => by cases h⟩
    | false =>
      obtain ⟨v, h1, h2, h3⟩ := S.sl i _ hi
      exact ⟨v, h1, h3, fun h => absurd h (by simp), fun _ => h2⟩
  obtain ⟨v, h1, h2, h3, h4⟩ := key
  refine ⟨v, A i, h1, h2, fun p hp => (S.al i p hp).1, fun fr a o h hp => ?_, fun j es p vs hj hg hv hp hpi => ?_, fun H' N' fp' c' k1 k2 t n ok f => ?_⟩
  · obtain ⟨_, q1, q2⟩ := S.al i a hp
    cases fr with
    | true =>
      have h : G.N a = some o := h
      rw [q1] at h; cases h
    | false =>
      rcases h with h | ⟨h, h'⟩
      · rw [q1] at h; cases h
      · rcases q2 with q2 | q2
        · exact h' q2
        · rw [q2] at h; cases h
  · rcases hg with hg | hg
    · obtain ⟨v', g1, g2, p', vs', g3, g4, _⟩ := S.sl j _ hg
      rw [hv] at g1
      cases g1
      cases g3
      exact hj (S.dj j i p (by rw [g4]; simp) hpi)
    · obtain ⟨v', g1, g2, p', vs', g3, g4, _⟩ := S.sl j _ hg
      rw [hv] at g1
      cases g1
      cases g3
      exact hj (S.dj j i p (by rw [g4]; simp) hpi)
  · have g : Grow G H (jn G.N N') H' (A i) := by
      refine ⟨k1, k2, t, fun a o h => jn_left h, fun a o h => ?_⟩
      rcases jn_cases h with h | ⟨_, h⟩
      · refine ⟨k1 a o (S.w.new a o h).1 fun hp => ?_, .inl h⟩
        rw [(S.al i a hp).2.1] at h; cases h
      · exact ⟨(n a o h).1, (n a o h).2.elim .inr .inl⟩
    have l : RgLe (RN N') (RN (jn G.N N')) := fun a o h => by
      show jn G.N N' a = some o
      cases q : G.N a with
      | none => rw [jn_right q]; exact h
      | some u =>
        rcases (n a o h).2 with z | z
        · have := (S.w.new a u q).1
          rw [z] at this
          cases this
        · exact jn_left z
    have f2 : ∀ p ∈ fp', H' p ≠ none ∧ jn G.N N' p = none ∧ (p ∈ A i ∨ H p = none) := fun p hp => by
      obtain ⟨q1, q2, q3⟩ := f p hp
      refine ⟨q1, ?_, q3⟩
      have : G.N p = none := by
        rcases q3 with q3 | q3
        · exact (S.al i p q3).2.1
        · exact (S.w.fresh q3).1
      rw [jn_right this]
      exact q2
    obtain ⟨S', e⟩ := S.step (i := i) (fp' := fp') (s' := if io then .io c' else .own c') (σ' := σ) g (fun p hp => hp) (fun j hj => rfl) rfl (fun hlt => by
      cases io with
      | true => exact ⟨v, h1, h3 rfl, Cl.mono ok l (fun _ _ => rfl) (TupLe.rf _)⟩
      | false =>
        refine ⟨v, h1, fun p hp => ?_, Cl.mono ok l (fun _ _ => rfl) (TupLe.rf _)⟩
        rcases (f p hp).2.2 with q | q
        · exact h4 rfl p q
        · exact (S.w.fresh q).2.1) f2
    exact ⟨_, S', e, l⟩

def cellAt (Γ : List Sl) (i : Nat) : Option (Bool × Cl) := match Γ[i]? with
  | some (.own c) => some (false, c)
  | some (.io c) => some (true, c)
  | _ => none
theorem cellAt_ok {Γ : List Sl} {i : Nat} {z : Bool × Cl} (h : cellAt Γ i = some z) : Γ[i]? = some (if z.1 then .io z.2 else .own z.2) := by
  unfold cellAt at h
  split at h
  · cases h; exact ‹_›
  · cases h; exact ‹_›
  · cases h
def pickC (n : Nat) (as : List AV) : Option Nat := match as[n]? with
  | some (.s i) => some i
  | _ => none
def insC (n : Nat) (c : Cl) (ds : List PyData) : List Ar := (ds.take n).map Ar.d ++ .c c :: (ds.drop n).map Ar.d
def ioAt (n : Nat) (Z : List Sl) : Option Cl := match Z[n]? with
  | some (.io c) => some c
  | _ => none
theorem ioAt_ok {n : Nat} {Z : List Sl} {c : Cl} (h : ioAt n Z = some c) : Z[n]? = some (.io c) := by
  unfold ioAt at h
  split at h
  · cases h; exact ‹_›
  · cases h
def R.atC (n : Nat) (Γ : List Sl) (i : Nat) (io : Bool) : R (Rs × List Sl) → R (Rs × List Sl)
  | .bad => .bad
  | .exc x => (R.ofO (ioAt n x.st)).bind fun c => .exc ⟨x.cls, x.flds, Γ.set i (mkS io c)⟩
  | .val z => (R.ofO (ioAt n z.2)).bind fun c => .val (z.1, Γ.set i (mkS io c))
theorem avs_erase {K : PySem.W.Frag} {G : Gh} {H : Hp} {σ : St} : ∀ {n i : Nat} {as : List AV} {vs : List V}, AVs K G H σ vs as → as[n]? = some (.s i) → ∃ v v1 v2, vs = v1 ++ v :: v2 ∧ v1.length = n ∧ σ[i]? = some (some v) ∧ AVs K G H σ (v1 ++ v2) (as.eraseIdx n)
  | 0, i, _, _, .cons (v := v) (vs := vs) h r, e => by
    cases e
    exact ⟨v, [], vs, rfl, rfl, h, r⟩
  | n + 1, i, _, _, .cons (v := u) h r, e => by
    obtain ⟨v, v1, v2, rfl, h1, h2, h3⟩ := avs_erase (n := n) r (by simpa using e)
    exact ⟨v, u :: v1, v2, rfl, by simp [h1], h2, .cons h h3⟩
  | _, _, _, _, .nil, e => by simp at e
theorem dna_split {K : PySem.W.Frag} {G : Rg} {H : Hp} : ∀ {v1 v2 : List V} {ds : List PyData}, DnA K G H (v1 ++ v2) ds → DnA K G H v1 (ds.take v1.length) ∧ DnA K G H v2 (ds.drop v1.length)
  | [], v2, ds, h => ⟨.nil, h⟩
  | v :: v1, v2, _, .cons h r => by
    obtain ⟨q1, q2⟩ := dna_split (v1 := v1) r
    exact ⟨.cons h q1, q2⟩
theorem argsC {K : PySem.W.Frag} {H : Hp} {v1 v2 : List V} {v : V} {ds : List PyData} {c : Cl} {fp : List Addr} (h : DnA K (fun a o => H a = some o ∧ a ∉ fp) H (v1 ++ v2) ds) {B : Hp} (hc : c.ok K (RN B) H v fp) (al : ∀ p ∈ fp, H p ≠ none) (hB : ∀ a o, B a = some o → H a = some o ∧ a ∉ fp) :
    ArgsU K H (v1 ++ v :: v2) (insC v1.length c ds) (fun i => if i = v1.length then fp else []) fp B := by
  obtain ⟨h1, h2⟩ := dna_split h
  have l1 := h1.length
  have l2 := h2.length
  have e1 : ((ds.take v1.length).map Ar.d).length = v1.length := by rw [List.length_map]; exact l1.symm
  refine ⟨?_, fun i x hx => ?_, fun i c' hc' => ?_, fun i hi => ?_, fun i p hp => ?_, al, fun i j p hi hj => ?_, fun i x hx => ?_, hB⟩
  · unfold insC
    rw [List.length_append, List.length_append, List.length_cons, List.length_cons, e1, List.length_map, ← l2]
  · unfold insC at hx
    by_cases hlt : i < v1.length
    · rw [List.getElem?_append_left (by rw [e1]; exact hlt)] at hx
      rw [List.getElem?_append_left hlt]
      exact dna_at h1 hx
    · rw [List.getElem?_append_right (by rw [e1]; omega), e1] at hx
      rw [List.getElem?_append_right (by omega)]
      cases hk : i - v1.length with
      | zero => rw [hk] at hx; cases hx
      | succ q =>
        rw [hk, List.getElem?_cons_succ] at hx
        rw [List.getElem?_cons_succ]
        exact dna_at h2 hx
  · unfold insC at hc'
    by_cases hlt : i < v1.length
    · rw [List.getElem?_append_left (by rw [e1]; exact hlt), List.getElem?_map] at hc'
      cases e : (ds.take v1.length)[i]? <;> rw [e] at hc' <;> cases hc'
    · rw [List.getElem?_append_right (by rw [e1]; omega), e1] at hc'
      cases hk : i - v1.length with
      | zero =>
        rw [hk] at hc'
        cases hc'
        have : i = v1.length := by omega
        subst this
        exact ⟨v, by simp, by rw [if_pos rfl]; exact hc⟩
      | succ q =>
        rw [hk, List.getElem?_cons_succ, List.getElem?_map] at hc'
        cases e : (ds.drop v1.length)[q]? <;> rw [e] at hc' <;> cases hc'
  · by_cases e : i = v1.length
    · subst e
      refine absurd ?_ (hi c)
      unfold insC
      rw [List.getElem?_append_right (by rw [e1]; exact Nat.le_refl _), e1, Nat.sub_self]
      rfl
    · exact if_neg e
  · by_cases e : i = v1.length
    · rw [if_pos e] at hp; exact hp
    · rw [if_neg e] at hp; cases hp
  · by_cases e : i = v1.length
    · by_cases e' : j = v1.length
      · rw [e, e']
      · rw [if_neg e'] at hj; cases hj
    · rw [if_neg e] at hi; cases hi
  · unfold insC at hx
    by_cases hlt : i < v1.length
    · rw [List.getElem?_append_left (by rw [e1]; exact hlt), List.getElem?_map] at hx
      cases e : (ds.take v1.length)[i]? <;> rw [e] at hx <;> cases hx
    · rw [List.getElem?_append_right (by rw [e1]; omega), e1] at hx
      cases hk : i - v1.length with
      | zero => rw [hk] at hx; cases hx
      | succ q =>
        rw [hk, List.getElem?_cons_succ, List.getElem?_map] at hx
        cases e : (ds.drop v1.length)[q]? <;> rw [e] at hx <;> cases hx
section
variable {X : Cx} {W : WX} {sc : Scope} {N : List Str} {x : Str} {e : Expr} {es : List Expr} {p pos : Pos} {k : DA} {dvs : List V} {dds : List PyData} {m : List Ar → R (Rs × List Sl)}
theorem callC_core {Γ : List Sl} {G : Gh} {H : Hp} {σ : St} {as : List AV} {ds : List PyData} {vs : List V} {Q : VK} {n i : Nat} {ic : Bool × Cl} (hdv : ∀ G H, DnA X.K G H dvs dds) (S : Sta X.K G H σ Γ) (av : AVs X.K G H σ vs as) (hn : pickC n as = some i) (hc : cellAt Γ i = some ic) (hd : rdDs Γ (some i) (as.eraseIdx n) = some ds) (hfl : ic.2.fl = true)
    (hp : Pst X W G H σ ((m (insC n ic.2 (ds ++ dds))).atC n Γ i ic.1) fun z G' H' => Sta X.K G' H' σ z.2 → RsOk X.K G'.N H' Q z.1) : spU X.K X.mg m (vs ++ dvs) H Q (fun cls d H => W cls d σ H) := by
  have hn' : as[n]? = some (.s i) := by
    unfold pickC at hn
    split at hn
    · cases hn; exact ‹_›
    · cases hn
  obtain ⟨v, v1, v2, rfl, hv1, hv, av2⟩ := avs_erase av hn'
  obtain ⟨v', fp, g1, g2, g3, g4, g5, g6⟩ := S.cellU i ic.1 (cellAt_ok hc)
  rw [hv] at g1
  cases g1
  have h1 : DnA X.K (fun a o => H a = some o ∧ a ∉ fp) H (v1 ++ v2) ds := rdDs_ok (i := some i) (fp := fp) S g4 (fun j es p vs hj hr hσ hH => by
    refine g5 j es p vs (fun z => hj (by rw [z])) ?_ hσ hH
    unfold rdD at hr
    simp only at hr
    split at hr
    · cases hr; exact .inl ‹_›
    · cases hr; exact .inr ‹_›
    · cases hr) hd av2
  have h2 : DnA X.K (fun a o => H a = some o ∧ a ∉ fp) H (v1 ++ (v2 ++ dvs)) (ds ++ dds) := by
    rw [← List.append_assoc]
    exact h1.append (hdv _ _)
  subst hv1
  refine ⟨_, _, _, G.N, by rw [List.append_assoc, List.cons_append]; exact argsC h2 g2 g3 (fun a o h => ⟨(S.w.new a o h).1, g4 true a o h⟩), ?_⟩
  have key : ∀ H' N' F' Z c', PostU X.K H (v1 ++ v :: v2 ++ dvs) (fun i => if i = v1.length then fp else []) fp G.N H' N' Z F' → ioAt v1.length Z = some c' → ∃ G', Sta X.K G' H' σ (Γ.set i (mkS ic.1 c')) ∧ Ext G H G' H' ∧ RgLe (RN N') (rg G' true) := fun H' N' F' Z c' P hz => by
    obtain ⟨u, q1, q2⟩ := P.cel _ _ (ioAt_ok hz)
    have : u = v := by
      rw [List.append_assoc, List.getElem?_append_right (Nat.le_refl _), Nat.sub_self] at q1
      exact (Option.some.inj q1).symm
    subst this
    exact g6 H' N' (F' v1.length) c' P.keep P.pal P.t P.new q2 fun p hp => P.al _ p hp
  cases hm : m (insC v1.length ic.2 (ds ++ dds)) with
  | bad => rw [hm] at hp; exact hp
  | exc y =>
    rw [hm] at hp
    intro H' N' F' C d P k1 k2
    obtain ⟨c', hz, hp⟩ := Pst.ofO (show Pst X W G H σ ((R.ofO (ioAt v1.length y.st)).bind fun c => .exc ⟨y.cls, y.flds, Γ.set i (mkS ic.1 c)⟩) _ from hp)
    obtain ⟨G', S', e', l⟩ := key H' N' F' y.st c' P hz
    refine hp G' H' σ C d e' S' k1 ?_
    rcases k2 with ⟨a, fs, q1, q2, q3, q4⟩ | q
    · exact .inl ⟨a, fs, q1, l _ _ q2, q3, q4.mono l (TupLe.rf _)⟩
    · exact .inr q
  | val z =>
    rw [hm] at hp
    intro H' N' F' P
    obtain ⟨c', hz, hp⟩ := Pst.ofO (show Pst X W G H σ ((R.ofO (ioAt v1.length z.2)).bind fun c => .val (z.1, Γ.set i (mkS ic.1 c))) _ from hp)
    obtain ⟨G', S', e', l⟩ := key H' N' F' z.2 c' P hz
    have q := hp G' H' e' S'
    simp only at q
    cases hz : z.1 with
    | d y => rw [hz] at q; exact fun v hv => q v (hv.mono l (TupLe.rf _))
    | c y => rw [hz] at q; exact fun v H2 ⟨fp, n1, n2, n3⟩ => q v H2 ⟨fp, n1, n2, Cl.mono n3 l (fun _ _ => rfl) (TupLe.rf _)⟩
def preC (n : Nat) (dds : List PyData) (z : List AV × List Sl) : R (Nat × Bool × List Ar) := (R.ofO (pickC n z.1)).bind fun i => (R.ofO (cellAt z.2 i)).bind fun ic => (R.ofO (rdDs z.2 (some i) (z.1.eraseIdx n))).bind fun ds => (R.req ic.2.fl).bind fun _ => .val (i, ic.1, insC n ic.2 (ds ++ dds))
/-- f(.., cell, ..) -/
def eCallC (m : List Ar → R (Rs × List Sl)) (n : Nat) (dds : List PyData) (k : DA) : DF := fun Γ => (k Γ).bind fun z => (preC n dds z).bind fun y => ((m y.2.2).atC n z.2 y.1 y.2.1).bind fun r => (R.ofO (rsD r.1)).bind fun y => .val (.d true y, r.2)
def nCallC (m : List Ar → R (Rs × List Sl)) (n : Nat) (dds : List PyData) (k : DA) : DC := fun Γ => (k Γ).bind fun z => (preC n dds z).bind fun y => ((m y.2.2).atC n z.2 y.1 y.2.1).bind fun r => (R.ofO (rsC r.1)).bind fun y => .val (y, r.2)
theorem preC_ok {n : Nat} {z : List AV × List Sl} {G : Gh} {H : Hp} {σ : St} {τ : Type} {q : Nat × Bool × List Ar → R τ} {P : τ → Gh → Hp → Prop} (h : Pst X W G H σ ((preC n dds z).bind q) P) : ∃ i ic ds, pickC n z.1 = some i ∧ cellAt z.2 i = some ic ∧ rdDs z.2 (some i) (z.1.eraseIdx n) = some ds ∧ ic.2.fl = true ∧ Pst X W G H σ (q (i, ic.1, insC n ic.2 (ds ++ dds))) P := by
  unfold preC at h
  rw [R.bind_assoc] at h
  obtain ⟨i, h1, h⟩ := Pst.ofO h
  rw [R.bind_assoc] at h
  obtain ⟨ic, h2, h⟩ := Pst.ofO h
  rw [R.bind_assoc] at h
  obtain ⟨ds, h3, h⟩ := Pst.ofO h
  rw [R.bind_assoc] at h
  obtain ⟨h4, h⟩ := Pst.req h
  exact ⟨i, ic, ds, h1, h2, h3, h4, h⟩
theorem ce_callC (C : Cf0 X W sc N) (n : Nat) (hc : Clee X x dvs (spU X.K X.mg m)) (hg : glB sc x = true) (hdv : ∀ G H, DnA X.K G H dvs dds) (ha : CA X W (e :: es) k)
    (hdb : (x == ("__debug__" : Str)) = false := by decide +kernel) (he : starEach (e :: es) X.env = (false, eval e X.env) :: starEach es X.env := by rfl) (hpl : (backTo pos (starEach es X.env)).any (·.1) = false := by rfl) : CE X W (.Call (.Name x p) (e :: es) [] pos) (eCallC m n dds k) := fun Γ => by
  obtain ⟨k', f, fd, ps, dss, F, hr, hm, hk, hb, hd⟩ := hc
  refine pe_imp (pe_callSD (E := fun σ cls d H => W cls d σ H) F hr (C.gl hg) hm hk hb hd (fun σ => passAt C.tk σ) (ha Γ) hdb he hpl) fun σ H Q ⟨G, S, q⟩ => ⟨G, S, (Pst.bind q).imp fun z G1 H1 e1 p1 vs S1 av => ?_⟩
  obtain ⟨i, ic, ds, h1, h2, h3, h4, p1⟩ := preC_ok p1
  refine callC_core hdv S1 av h1 h2 h3 h4 ((Pst.bind p1).imp fun r G2 H2 e2 p2 S2 => ?_)
  obtain ⟨y, hy, p2⟩ := Pst.ofO p2
  cases hz : r.1 with
  | d w =>
    rw [hz] at hy
    cases hy
    exact fun v hv => p2 G2 H2 (Ext.rf S2.w) v S2 hv
  | c w => rw [hz] at hy; cases hy
theorem cc_callC (C : Cf0 X W sc N) (n : Nat) (hc : Clee X x dvs (spU X.K X.mg m)) (hg : glB sc x = true) (hdv : ∀ G H, DnA X.K G H dvs dds) (ha : CA X W (e :: es) k)
    (hdb : (x == ("__debug__" : Str)) = false := by decide +kernel) (he : starEach (e :: es) X.env = (false, eval e X.env) :: starEach es X.env := by rfl) (hpl : (backTo pos (starEach es X.env)).any (·.1) = false := by rfl) : CC X W (.Call (.Name x p) (e :: es) [] pos) (nCallC m n dds k) := fun Γ => by
  obtain ⟨k', f, fd, ps, dss, F, hr, hm, hk, hb, hd⟩ := hc
  refine pe_imp (pe_callSD (E := fun σ cls d H => W cls d σ H) F hr (C.gl hg) hm hk hb hd (fun σ => passAt C.tk σ) (ha Γ) hdb he hpl) fun σ H Q ⟨G, S, q⟩ => ⟨G, S, (Pst.bind q).imp fun z G1 H1 e1 p1 vs S1 av => ?_⟩
  obtain ⟨i, ic, ds, h1, h2, h3, h4, p1⟩ := preC_ok p1
  refine callC_core hdv S1 av h1 h2 h3 h4 ((Pst.bind p1).imp fun r G2 H2 e2 p2 S2 => ?_)
  obtain ⟨y, hy, p2⟩ := Pst.ofO p2
  cases hz : r.1 with
  | c w =>
    rw [hz] at hy
    cases hy
    exact fun v H3 hn => p2 G2 H2 (Ext.rf S2.w) v H3 S2 hn
  | d w => rw [hz] at hy; cases hy
end
end PD


set_option Elab.async false
set_option linter.all false
set_option maxRecDepth 100000
set_option maxHeartbeats 4000000
set_option autoImplicit false
/-! ## set(list of ints), sorted(set(..)), len(set(..)) -/
namespace PD
open PySem PySem.Spec PyProof.Rows L2
abbrev sO (w : World) : Obj := { cls := .type "set", dict := none, data := .set #[] 0 (.fresh 0 0 (!w.params.followText "set-order")) }
section
variable {P : Program} {w : World} {A : Around} {E : Value → Shared → Prop} {s : Shared}
theorem set_of_list {l : Addr} {items : Array Value} (ns : List Int) {Q : Value → Shared → Prop} (hh : A.handled = none) (hl : s.heap.IsList l items) (hit : IntsAre items.toList ns) (hb : ns.length + 1 < scanBound)
    (h : ∀ (h' : Heap) (tk c : Nat), SetR w h' s.heap.objs.size (fun j => decide (j ∈ ns)) c → c ≤ ns.length → (∀ b o, s.heap.get? b = some o → h'.get? b = some o) → Q (.ref s.heap.objs.size) { s with heap := h', toks := tk }) :
    wpAny (model P w) A (call (.type "set") [.ref l]) Q E s := by
  have z0 : items.size = ns.length := by rw [← Array.length_toList]; exact IntsAre.length hit
  obtain ⟨c, tl, z1⟩ := F.called_set.mro
  have z2 := F.called_set.made
  have z3 := F.called_set.sub
  refine wpAny_call (codeAny_of_tree ?_)
  show wpAny _ _ (callAny (.type "set") _) _ _ _
  refine wpAny_pure ⟨Code.quiet_builtin _ (by decide +kernel), codeAny_builtin F.entry_type_call ?_⟩
  rw [Around.under_plain (weight_type_call_type "set" [.ref l] []) rfl]
  have z4 := F.called_set.notType
  have z5 := F.called_set.canCreate
  have z6 := F.typeCall_set_1 (.ref l)
  repeat (any_goals (first | assumption | wp_step))
  refine codeAny_mono (code_set_led1 (.ref l) (E := E) (Q₁ := fun ob s1 => ob = .ref s.heap.objs.size ∧ s1 = { s with heap := s.heap.push (sO w) }) ⟨rfl, rfl⟩) fun r s1 hr => ?_
  cases r with
  | error e => exact hr
  | ok fl =>
    cases fl with
    | ret ob =>
      obtain ⟨rfl, rfl⟩ := hr
      have hS : (s.heap.push (sO w)).get? s.heap.objs.size = some (sO w) := Heap.get?_push_size _ rfl
      have hT : Shared.TypeIs { s with heap := s.heap.push (sO w) } (.ref s.heap.objs.size) "set" := ⟨_, hS, rfl⟩
      have z7 := F.called_set.init.lookup
      have z8 := F.called_set.init.bind (.ref s.heap.objs.size)
      repeat (any_goals (first | assumption | wp_step))
      refine codeAny_mono (codeAny_call_builtin (R := wants (fun r s2 => r = .none ∧ ∃ h' tk c, s2 = { s with heap := h', toks := tk } ∧ SetR w h' s.heap.objs.size (fun j => decide (j ∈ ns)) c ∧ c ≤ ns.length ∧ (∀ b o, s.heap.get? b = some o → h'.get? b = some o)) E)
        F.called_set.init.plain F.entry_set_init (check_set_init_1 hT ?_)) fun r2 s2 hr2 => ?_
      · obtain ⟨⟨ocls, odict, odata, oslots⟩, hol, hcl, nl, hdl⟩ := hl
        simp only at hcl hdl
        subst hcl
        subst hdl
        have ho1 : (s.heap.push (sO w)).get? l = some { cls := .type "list", dict := odict, data := .seq items nl, slots := oslots } := Heap.get?_push_of_some _ hol
        have y1 := F.sub_list_set
        have y2 := F.sub_list_frozenset
        have y3 : (Value.type "list" == Value.type "dict") = false := by decide
        have hl1 : (s.heap.push (sO w)).IsList l items := ⟨_, ho1, rfl, nl, rfl⟩
        unfold Builtin.«set.__init__» noKeywords Builtin.Frozenset.updateFrom
        generalize hPI : pyIter = PI
        wp_walk
        subst hPI
        refine wpAny_pyIter_list hl1 (wpAny_bind (wpAny_runValue ?_))
        have hlS : l < s.heap.objs.size := Heap.lt_size hol
        have y4 : A.in1.in1.in1.handled = none := by simp [hh]
        have y5 : (s.heap.push (sO w)).objs.size = s.heap.objs.size + 1 := Heap.size_push ..
        have y6 : l ≠ (s.heap.push (sO w)).objs.size := by rw [y5]; exact Nat.ne_of_lt (Nat.lt_succ_of_lt hlS)
        have y7 : s.heap.objs.size ∉ [(s.heap.push (sO w)).objs.size, l] := by rw [y5]; simp; exact fun z => Nat.ne_of_lt hlS z.symm
        have hval : ∀ (i : Nat) (v : Value), items[i]? = some v → ∃ k t, ns[i]? = some k ∧ v = .int k t := fun i v hv => by
          have hi : i < ns.length := by rw [← z0]; exact (Array.getElem?_eq_some_iff.mp hv).1
          obtain ⟨t, e⟩ := IntsAre.int_at hit i v (by rw [Array.getElem?_toList]; exact hv)
          exact ⟨ns[i], t, List.getElem?_eq_getElem hi, by rw [e]; simp [hi]⟩
        refine set_update_ints ((Walks.list y4 _ l y6 items).toS) s.heap.objs.size y7 ns z0 hb hval (items.size - 0) 0 _ (by omega) (Nat.zero_le _) ⟨⟨_, Heap.get?_push_size _ rfl, rfl, rfl⟩, hl1.push _⟩
          ⟨0, Nat.le_refl 0, setR_new_at (Heap.get?_push_of_some _ hS)⟩ ?_
        intro s' c' hm hc' hS'
        obtain ⟨h', g2, d', tk', os'⟩ := s'
        have eg : g2 = s.gens := hm.gens
        have ed : d' = s.drawn := hm.drawn
        have eo : os' = s.os := hm.os
        subst eg ed eo
        show wpAny _ _ _ _ _ _
        refine wpAny_pure ?_
        show wpAny _ _ (ret Value.none) _ _ _
        rw [z0] at hc'
        refine wpAny_pure ⟨rfl, h', tk', c', rfl, hS', hc', fun b o e => ?_⟩
        have hb0 : b < s.heap.objs.size := Heap.lt_size e
        exact hm.heap b o (by rw [y5]; simp; exact ⟨Nat.ne_of_lt hb0, Nat.ne_of_lt (Nat.lt_succ_of_lt hb0)⟩) (Heap.get?_push_of_some _ (Heap.get?_push_of_some _ e))
      · cases r2 with
        | error e => exact hr2
        | ok f2 =>
          cases f2 with
          | ret r =>
            obtain ⟨rfl, h', tk, c', rfl, q1, q2, q3⟩ := hr2
            repeat (any_goals (first | assumption | wp_step))
            exact h _ _ _ q1 q2 q3
          | _ => exact hr2.elim
    | _ => exact hr.elim
end
end PD


set_option Elab.async false
set_option linter.all false
set_option maxRecDepth 100000
set_option maxHeartbeats 4000000
set_option autoImplicit false
namespace PD
open PySem PySem.Spec PyProof.Rows L2
/-! the members once, rising -/
def insS (k : Int) : List Int → List Int
  | [] => [k]
  | x :: xs => if k < x then k :: x :: xs else if k = x then x :: xs else x :: insS k xs
def setI : List Int → List Int
  | [] => []
  | n :: ns => insS n (setI ns)
theorem insS_mem {k j : Int} : ∀ {xs : List Int}, j ∈ insS k xs ↔ j = k ∨ j ∈ xs
  | [] => by simp [insS]
  | x :: xs => by
    unfold insS
    split
    · simp
    · split
      · next h => subst h; simp
      · simp only [List.mem_cons, insS_mem (xs := xs)]
        constructor
        · rintro (h | h | h) <;> simp [h]
        · rintro (h | h | h) <;> simp [h]
theorem insS_rise {k : Int} : ∀ {xs : List Int}, xs.Pairwise (· < ·) → (insS k xs).Pairwise (· < ·)
  | [], _ => by simp [insS]
  | x :: xs, h => by
    have h' := List.pairwise_cons.mp h
    unfold insS
    split
    · next hk =>
      refine List.pairwise_cons.mpr ⟨fun y hy => ?_, h⟩
      rcases List.mem_cons.mp hy with z | z
      · omega
      · have := h'.1 y z
        omega
    · split
      · exact h
      · next h1 h2 =>
        refine List.pairwise_cons.mpr ⟨fun y hy => ?_, insS_rise h'.2⟩
        rcases insS_mem.mp hy with z | z
        · omega
        · exact h'.1 y z
theorem setI_mem {k : Int} : ∀ {ns : List Int}, k ∈ setI ns ↔ k ∈ ns
  | [] => by simp [setI]
  | n :: ns => by simp [setI, insS_mem, setI_mem (ns := ns)]
theorem setI_rise : ∀ (ns : List Int), (setI ns).Pairwise (· < ·)
  | [] => .nil
  | n :: ns => insS_rise (setI_rise ns)
theorem rise_ext : ∀ {xs ys : List Int}, xs.Pairwise (· < ·) → ys.Pairwise (· < ·) → (∀ k, k ∈ xs ↔ k ∈ ys) → xs = ys
  | [], [], _, _, _ => rfl
  | [], y :: ys, _, _, h => absurd ((h y).2 (by simp)) (by simp)
  | x :: xs, [], _, _, h => absurd ((h x).1 (by simp)) (by simp)
  | x :: xs, y :: ys, hx, hy, h => by
    have hx' := List.pairwise_cons.mp hx
    have hy' := List.pairwise_cons.mp hy
    have e : x = y := by
      rcases List.mem_cons.mp ((h x).1 (by simp)) with z | z
      · exact z
      · rcases List.mem_cons.mp ((h y).2 (by simp)) with z' | z'
        · exact z'.symm
        · have a := hx'.1 y z'
          have b := hy'.1 x z
          omega
    subst e
    rw [rise_ext hx'.2 hy'.2 fun k => ?_]
    constructor
    · intro z
      rcases List.mem_cons.mp ((h k).1 (by simp [z])) with q | q
      · have := hx'.1 k z; omega
      · exact q
    · intro z
      rcases List.mem_cons.mp ((h k).2 (by simp [z])) with q | q
      · have := hy'.1 k z; omega
      · exact q
def lt64 (ns : List Int) : Bool := decide (ns.length < 64)
theorem pe_sset {X : Cx} {a : Expr} {ta : TE} {p p2 q pos : Pos} (hc : X.calm = true) (hg : Gl X "sorted") (hm : X.mg "sorted" = none) (hg2 : Gl X "set") (hm2 : X.mg "set" = none) (ha : PE X a ta)
    (na : starEach [a] X.env = (false, eval a X.env) :: starEach [] X.env := by rfl) : PE X (.Call (.Name "sorted" p) [.Call (.Name "set" p2) [a] [] q] [] pos)
      (fun σ H Q => ta σ H fun x H1 => ∃ (l : Addr) (ns : List Int), x = .ref l ∧ (SqL X.K H1 l (ns.map V.int) ∨ SqT X.K H1 l (ns.map V.int)) ∧ ns.length < 64 ∧ ∀ p, H1 p = none → Q (.ref p) (upd H1 p (.lst ((setI ns).map V.int)))) := by
  refine ⟨fun pins s σ H Q I h => ?_⟩
  refine Call_ (ld_blt I hg hm (show bootBuiltins "sorted" = some (.builtin "sorted") by decide +kernel) ?_)
  refine callWith_builtin1 (args_cons ?_ rfl) rfl rfl
  refine Call_ (ld_blt I hg2 hm2 boot_set ?_)
  refine callWith_type1 (args_cons (thn (ha.run pins s σ H _ I h) fun v s1 ⟨x, H1, I1, r1, q1⟩ => args_nil ?_) na) na rfl
  obtain ⟨l, ns, rfl, hq, h64, q1⟩ := q1
  cases r1
  have fin : ∀ (h' : Heap) (tk c : Nat), SetR X.w h' s1.heap.objs.size (fun j => decide (j ∈ ns)) c → c ≤ ns.length → (∀ b o, s1.heap.get? b = some o → h'.get? b = some o) →
      wpAny (model X.prog X.w) X.A (call (.builtin "sorted") [.ref s1.heap.objs.size]) (fun v s' => ∃ x H', Inv X pins σ H' s' ∧ RelV x v ∧ Q x H') X.xe { s1 with heap := h', toks := tk } := fun h' tk c R1 hc1 hk => by
    have I2 : Inv X pins σ H1 { s1 with heap := h', toks := tk } := I1.kept hk
    refine sorted_set (s := { s1 with heap := h', toks := tk }) R1 (I2.ok.hd hc) (by omega) fun s' p out c ms k g o hp hg hi hs hmm hl => ?_
    have e1 : ms = setI ns := rise_ext hs (setI_rise ns) fun z => by rw [hmm z, setI_mem]; simp
    subst e1
    have hlen : ((setI ns).map V.int).length ≤ sizeLine := by rw [List.length_map, hl, sizeLine_eq]; omega
    have hn : H1 p = none := I2.hok.fresh hp
    have J : Inv X pins σ (upd H1 p (.lst ((setI ns).map V.int))) { ({ s1 with heap := h', toks := tk } : Shared) with heap := s'.heap, gens := s'.gens, drawn := s'.drawn, toks := s'.toks } :=
      I2.call (ch := []) (Un.laid k hp hn) (I2.hok.laid k hp ⟨hlen, out.toList, c, vals_of_ints hi, hg⟩) (by rw [g]; exact I2.bare) (fun _ z => nomatch z)
    have e : s' = { ({ s1 with heap := h', toks := tk } : Shared) with heap := s'.heap, gens := s'.gens, drawn := s'.drawn, toks := s'.toks } := by
      cases s'
      cases o
      rfl
    rw [e]
    exact ⟨.ref p, _, J, rfl, q1 p hn⟩
  rcases hq with hq | hq
  · obtain ⟨its, r, pl, hz⟩ := I1.list hq
    exact set_of_list ns (I1.ok.hd hc) pl.isList (by simpa using intsAre_of r) (by unfold scanBound; omega) fun h' tk c a b d => args_nil (fin h' tk c a b d)
  · obtain ⟨its, r, pl, hz⟩ := I1.tuple hq
    exact call_set_tupI ns (I1.ok.hd hc) (show s1.heap.IsTuple l its.toArray from pl) (by simpa using intsAre_of r) (by unfold scanBound; omega) fun h' tk c a b d => args_nil (fin h' tk c a b d)
end PD


set_option Elab.async false
set_option linter.all false
set_option maxRecDepth 100000
set_option maxHeartbeats 4000000
set_option autoImplicit false
namespace PD
open PySem L2
section
variable {X : Cx} {W : WX} {sc : Scope} {N : List Str} {Γ : List Sl} {e : Expr} {es : List Expr} {pos p : Pos} {α γ : Type} {ma : R α} {as : α → List AV} {Γ1 : α → List Sl}
theorem ev_callB (C : Cf0 X W sc N) {x : Str} {id : String} {r : List V → Hp → VK → Prop} {k : α → R γ} {av : γ → AV} {Γk : γ → List Sl} (hc : CallR X (.builtin id) r) (hg : glB sc x = true) (hm : X.mg x = none) (hv : bootBuiltins x = some (.builtin id)) (ha : EvA X W Γ (e :: es) ma as Γ1)
    (hk : ∀ a G H σ vs Q, Sta X.K G H σ (Γ1 a) → AVs X.K G H σ vs (as a) → Pst X W G H σ (k a) (fun z G' H' => ∀ w, Sta X.K G' H' σ (Γk z) → AVok X.K G' H' σ w (av z) → Q w H') → r vs H Q)
    (hn : x ≠ "__name__" := by decide +kernel) (hdb : (x == ("__debug__" : Str)) = false := by decide +kernel) (he : starEach (e :: es) X.env = (false, eval e X.env) :: starEach es X.env := by rfl) (hpl : (backTo pos (starEach es X.env)).any (·.1) = false := by rfl) :
    Ev X W Γ (.Call (.Name x p) (e :: es) [] pos) (ma.bind k) av Γk :=
  pe_imp (pe_callB hc (C.gl hg) hm hv ha hn hdb he hpl) fun σ H Q ⟨G, S, p⟩ => ⟨G, S, (Pst.bind p).imp fun a G1 H1 e1 p1 vs S1 h1 => hk a G1 H1 σ vs Q S1 h1 p1⟩
theorem ev_callT (C : Cf0 X W sc N) {x : Str} {T : String} {r : List V → Hp → VK → Prop} {k : α → R γ} {av : γ → AV} {Γk : γ → List Sl} (hc : CallR X (.type T) r) (hg : glB sc x = true) (hm : X.mg x = none) (hv : bootBuiltins x = some (.type T)) (ha : EvA X W Γ (e :: es) ma as Γ1)
    (hk : ∀ a G H σ vs Q, Sta X.K G H σ (Γ1 a) → AVs X.K G H σ vs (as a) → Pst X W G H σ (k a) (fun z G' H' => ∀ w, Sta X.K G' H' σ (Γk z) → AVok X.K G' H' σ w (av z) → Q w H') → r vs H Q)
    (hn : x ≠ "__name__" := by decide +kernel) (hdb : (x == ("__debug__" : Str)) = false := by decide +kernel) (he : starEach (e :: es) X.env = (false, eval e X.env) :: starEach es X.env := by rfl) (hpl : (backTo pos (starEach es X.env)).any (·.1) = false := by rfl) :
    Ev X W Γ (.Call (.Name x p) (e :: es) [] pos) (ma.bind k) av Γk :=
  pe_imp (pe_callTy hc (C.gl hg) hm hv ha hn hdb he hpl) fun σ H Q ⟨G, S, p⟩ => ⟨G, S, (Pst.bind p).imp fun a G1 H1 e1 p1 vs S1 h1 => hk a G1 H1 σ vs Q S1 h1 p1⟩
theorem evf_callB (C : Cf0 X W sc N) {x : Str} {id : String} {r : List V → Hp → VK → Prop} {k : α → R γ} {ds : γ → List PyData} {Γk : γ → List Sl} (hc : CallR X (.builtin id) r) (hg : glB sc x = true) (hm : X.mg x = none) (hv : bootBuiltins x = some (.builtin id)) (ha : EvA X W Γ (e :: es) ma as Γ1)
    (hk : ∀ a G H σ vs Q, Sta X.K G H σ (Γ1 a) → AVs X.K G H σ vs (as a) → Pst X W G H σ (k a) (fun z G' H' => ∀ q ws, Sta X.K G' H' σ (Γk z) → H' q = none → DnA X.K (rg G' true) H' ws (ds z) → Q (.ref q) (upd H' q (.lst ws))) → r vs H Q)
    (hn : x ≠ "__name__" := by decide +kernel) (hdb : (x == ("__debug__" : Str)) = false := by decide +kernel) (he : starEach (e :: es) X.env = (false, eval e X.env) :: starEach es X.env := by rfl) (hpl : (backTo pos (starEach es X.env)).any (·.1) = false := by rfl) :
    EvF X W Γ (.Call (.Name x p) (e :: es) [] pos) (ma.bind k) ds Γk :=
  pe_imp (pe_callB hc (C.gl hg) hm hv ha hn hdb he hpl) fun σ H Q ⟨G, S, p⟩ => ⟨G, S, (Pst.bind p).imp fun a G1 H1 e1 p1 vs S1 h1 => hk a G1 H1 σ vs Q S1 h1 p1⟩
theorem evf_callT (C : Cf0 X W sc N) {x : Str} {T : String} {r : List V → Hp → VK → Prop} {k : α → R γ} {ds : γ → List PyData} {Γk : γ → List Sl} (hc : CallR X (.type T) r) (hg : glB sc x = true) (hm : X.mg x = none) (hv : bootBuiltins x = some (.type T)) (ha : EvA X W Γ (e :: es) ma as Γ1)
    (hk : ∀ a G H σ vs Q, Sta X.K G H σ (Γ1 a) → AVs X.K G H σ vs (as a) → Pst X W G H σ (k a) (fun z G' H' => ∀ q ws, Sta X.K G' H' σ (Γk z) → H' q = none → DnA X.K (rg G' true) H' ws (ds z) → Q (.ref q) (upd H' q (.lst ws))) → r vs H Q)
    (hn : x ≠ "__name__" := by decide +kernel) (hdb : (x == ("__debug__" : Str)) = false := by decide +kernel) (he : starEach (e :: es) X.env = (false, eval e X.env) :: starEach es X.env := by rfl) (hpl : (backTo pos (starEach es X.env)).any (·.1) = false := by rfl) :
    EvF X W Γ (.Call (.Name x p) (e :: es) [] pos) (ma.bind k) ds Γk :=
  pe_imp (pe_callTy hc (C.gl hg) hm hv ha hn hdb he hpl) fun σ H Q ⟨G, S, p⟩ => ⟨G, S, (Pst.bind p).imp fun a G1 H1 e1 p1 vs S1 h1 => hk a G1 H1 σ vs Q S1 h1 p1⟩
end
def intsOf : List PyData → Option (List Int)
  | [] => some []
  | .int i :: ds => (intsOf ds).map (i :: ·)
  | _ => none
theorem intsOf_eq : ∀ {ds : List PyData} {ns : List Int}, intsOf ds = some ns → ds = ns.map PyData.int
  | [], _, h => by cases h; rfl
  | .int i :: ds, ns, h => by
    unfold intsOf at h
    cases e : intsOf ds with
    | none => rw [e] at h; cases h
    | some ms => rw [e] at h; cases h; rw [intsOf_eq e]; rfl
  | .none :: _, _, h => by cases h
  | .bool _ :: _, _, h => by cases h
  | .str _ :: _, _, h => by cases h
  | .list _ :: _, _, h => by cases h
  | .tuple _ :: _, _, h => by cases h
  | .dict _ :: _, _, h => by cases h
theorem intsOf_map : ∀ ns : List Int, intsOf (ns.map PyData.int) = some ns
  | [] => rfl
  | n :: ns => by simp [intsOf, intsOf_map ns]
def boolsOf : List PyData → Option (List Bool)
  | [] => some []
  | .bool i :: ds => (boolsOf ds).map (i :: ·)
  | _ => none
theorem boolsOf_eq : ∀ {ds : List PyData} {ns : List Bool}, boolsOf ds = some ns → ds = ns.map PyData.bool
  | [], _, h => by cases h; rfl
  | .bool i :: ds, ns, h => by
    unfold boolsOf at h
    cases e : boolsOf ds with
    | none => rw [e] at h; cases h
    | some ms => rw [e] at h; cases h; rw [boolsOf_eq e]; rfl
  | .none :: _, _, h => by cases h
  | .int _ :: _, _, h => by cases h
  | .str _ :: _, _, h => by cases h
  | .list _ :: _, _, h => by cases h
  | .tuple _ :: _, _, h => by cases h
  | .dict _ :: _, _, h => by cases h
theorem boolsOf_map : ∀ ns : List Bool, boolsOf (ns.map PyData.bool) = some ns
  | [] => rfl
  | n :: ns => by simp [boolsOf, boolsOf_map ns]
section
variable {X : Cx} {W : WX} {sc : Scope} {N : List Str} {a b c e : Expr} {es : List Expr} {pos p : Pos} {f g : DF} {k : DA}
theorem callR_or {v : Value} {r1 r2 : List V → Hp → VK → Prop} (h1 : CallR X v r1) (h2 : CallR X v r2) : CallR X v (fun vs H Q => r1 vs H Q ∨ r2 vs H Q) := fun pins s σ H xs us Q I rv z => z.elim (h1 pins s σ H xs us Q I rv) (h2 pins s σ H xs us Q I rv)
def dB (q : List Sl → List AV → R AV) (k : DA) : DF := fun Γ => (k Γ).bind fun z => (q z.2 z.1).bind fun y => .val (y, z.2)
theorem ce_bB (C : Cf0 X W sc N) {x : Str} {id : String} {r : List V → Hp → VK → Prop} (q : List Sl → List AV → R AV) (hc : CallR X (.builtin id) r) (hg : glB sc x = true) (hm : X.mg x = none) (hv : bootBuiltins x = some (.builtin id)) (ha : CA X W (e :: es) k)
    (hk : ∀ as Γ2 G H σ vs Q, Sta X.K G H σ Γ2 → AVs X.K G H σ vs as → Pk X W G H σ ((q Γ2 as).bind fun y => .val (y, Γ2)) Q → r vs H Q)
    (hn : x ≠ "__name__" := by decide +kernel) (hdb : (x == ("__debug__" : Str)) = false := by decide +kernel) (he : starEach (e :: es) X.env = (false, eval e X.env) :: starEach es X.env := by rfl) (hpl : (backTo pos (starEach es X.env)).any (·.1) = false := by rfl) :
    CE X W (.Call (.Name x p) (e :: es) [] pos) (dB q k) := fun Γ => ev_callB (k := fun z : List AV × List Sl => (q z.2 z.1).bind fun y => .val (y, z.2)) C hc hg hm hv (ha Γ) (fun z G H σ vs Q S h p => hk z.1 z.2 G H σ vs Q S h p) hn hdb he hpl
theorem ce_bT (C : Cf0 X W sc N) {x : Str} {id : String} {r : List V → Hp → VK → Prop} (q : List Sl → List AV → R AV) (hc : CallR X (.type id) r) (hg : glB sc x = true) (hm : X.mg x = none) (hv : bootBuiltins x = some (.type id)) (ha : CA X W (e :: es) k)
    (hk : ∀ as Γ2 G H σ vs Q, Sta X.K G H σ Γ2 → AVs X.K G H σ vs as → Pk X W G H σ ((q Γ2 as).bind fun y => .val (y, Γ2)) Q → r vs H Q)
    (hn : x ≠ "__name__" := by decide +kernel) (hdb : (x == ("__debug__" : Str)) = false := by decide +kernel) (he : starEach (e :: es) X.env = (false, eval e X.env) :: starEach es X.env := by rfl) (hpl : (backTo pos (starEach es X.env)).any (·.1) = false := by rfl) :
    CE X W (.Call (.Name x p) (e :: es) [] pos) (dB q k) := fun Γ => ev_callT (k := fun z : List AV × List Sl => (q z.2 z.1).bind fun y => .val (y, z.2)) C hc hg hm hv (ha Γ) (fun z G H σ vs Q S h p => hk z.1 z.2 G H σ vs Q S h p) hn hdb he hpl
def Pn (X : Cx) (W : WX) (G : Gh) (H : Hp) (σ : St) (m : R (List PyData × List Sl)) (Q : VK) : Prop := Pst X W G H σ m fun z G' H' => ∀ q ws, Sta X.K G' H' σ z.2 → H' q = none → DnA X.K (rg G' true) H' ws z.1 → Q (.ref q) (upd H' q (.lst ws))
def dBN (q : List Sl → List AV → R (List PyData)) (k : DA) : DN := fun Γ => (k Γ).bind fun z => (q z.2 z.1).bind fun y => .val (y, z.2)
theorem cn_bB (C : Cf0 X W sc N) {x : Str} {id : String} {r : List V → Hp → VK → Prop} (q : List Sl → List AV → R (List PyData)) (hc : CallR X (.builtin id) r) (hg : glB sc x = true) (hm : X.mg x = none) (hv : bootBuiltins x = some (.builtin id)) (ha : CA X W (e :: es) k)
    (hk : ∀ as Γ2 G H σ vs Q, Sta X.K G H σ Γ2 → AVs X.K G H σ vs as → Pn X W G H σ ((q Γ2 as).bind fun y => .val (y, Γ2)) Q → r vs H Q)
    (hn : x ≠ "__name__" := by decide +kernel) (hdb : (x == ("__debug__" : Str)) = false := by decide +kernel) (he : starEach (e :: es) X.env = (false, eval e X.env) :: starEach es X.env := by rfl) (hpl : (backTo pos (starEach es X.env)).any (·.1) = false := by rfl) :
    CN X W (.Call (.Name x p) (e :: es) [] pos) (dBN q k) := fun Γ => evf_callB (k := fun z : List AV × List Sl => (q z.2 z.1).bind fun y => .val (y, z.2)) C hc hg hm hv (ha Γ) (fun z G H σ vs Q S h p => hk z.1 z.2 G H σ vs Q S h p) hn hdb he hpl
theorem cn_bT (C : Cf0 X W sc N) {x : Str} {id : String} {r : List V → Hp → VK → Prop} (q : List Sl → List AV → R (List PyData)) (hc : CallR X (.type id) r) (hg : glB sc x = true) (hm : X.mg x = none) (hv : bootBuiltins x = some (.type id)) (ha : CA X W (e :: es) k)
    (hk : ∀ as Γ2 G H σ vs Q, Sta X.K G H σ Γ2 → AVs X.K G H σ vs as → Pn X W G H σ ((q Γ2 as).bind fun y => .val (y, Γ2)) Q → r vs H Q)
    (hn : x ≠ "__name__" := by decide +kernel) (hdb : (x == ("__debug__" : Str)) = false := by decide +kernel) (he : starEach (e :: es) X.env = (false, eval e X.env) :: starEach es X.env := by rfl) (hpl : (backTo pos (starEach es X.env)).any (·.1) = false := by rfl) :
    CN X W (.Call (.Name x p) (e :: es) [] pos) (dBN q k) := fun Γ => evf_callT (k := fun z : List AV × List Sl => (q z.2 z.1).bind fun y => .val (y, z.2)) C hc hg hm hv (ha Γ) (fun z G H σ vs Q S h p => hk z.1 z.2 G H σ vs Q S h p) hn hdb he hpl
theorem Pn.v {G : Gh} {H : Hp} {σ : St} {ds : List PyData} {Γ : List Sl} {Q : VK} (h : Pn X W G H σ (.val (ds, Γ)) Q) (S : Sta X.K G H σ Γ) {q : Addr} {ws : List V} (hq : H q = none) (hd : DnA X.K (rg G true) H ws ds) : Q (.ref q) (upd H q (.lst ws)) := h G H (Ext.rf S.w) q ws S hq hd
/-- len(x) -/
def kLen (Γ : List Sl) : List AV → R AV
  | [x] => match rdD Γ x with
    | some (.list ds) => .val (.d true (.int (ds.length : Nat)))
    | some (.tuple ds) => .val (.d true (.int (ds.length : Nat)))
    | some (.str z) => gq (decide (z.length ≤ sizeLine)) (.d true (.int (z.length : Nat)))
    | _ => .bad
  | _ => .bad
theorem ce_len (C : Cf0 X W sc N) (hg : glB sc "len" = true) (hm : X.mg "len" = none) (ha : CA X W [e] k) (he : starEach [e] X.env = (false, eval e X.env) :: starEach [] X.env := by rfl) : CE X W (.Call (.Name "len" p) [e] [] pos) (dB kLen k) :=
  ce_bB C kLen (callR_or call_len_seq call_len_str) hg hm PySem.boot_len ha (fun as Γ2 G H σ vs Q S h q => by
    unfold kLen at q
    split at q
    · obtain ⟨v, rfl, hv⟩ := avs_one h
      split at q
      · rename_i ds hd
        obtain ⟨l, xs, rfl, g1, g2⟩ := dn_list ((rdD_ok hd).ok S hv)
        refine .inl ⟨l, xs, rfl, .inl g1.sq, Pk.v q S ?_⟩
        rw [g2.length]
        exact .int _
      · rename_i ds hd
        obtain ⟨l, xs, rfl, g1, g2⟩ := dn_tuple ((rdD_ok hd).ok S hv)
        refine .inl ⟨l, xs, rfl, .inr g1, Pk.v q S ?_⟩
        rw [g2.length]
        exact .int _
      · rename_i z hd
        rcases gq_cases (decide (z.length ≤ sizeLine)) (AV.d true (.int (z.length : Nat))) with e | ⟨hc, e⟩
        · rw [e] at q; exact q.elim
        · rw [e] at q
          exact .inr ⟨z, by rw [dn_str ((rdD_ok hd).ok S hv)], of_decide_eq_true hc, Pk.v q S (.int _)⟩
      · exact q.elim
    · exact q.elim) (by decide +kernel) (by decide +kernel) he
def kMax2 (_ : List Sl) : List AV → R AV
  | [.d _ (.int i), .d _ (.int j)] => .val (.d true (.int (max2 i j)))
  | _ => .bad
def kMin2 (_ : List Sl) : List AV → R AV
  | [.d _ (.int i), .d _ (.int j)] => .val (.d true (.int (min2 i j)))
  | _ => .bad
theorem ce_max2 (C : Cf X W sc N) (hg : glB sc "max" = true) (hm : X.mg "max" = none) (ha : CA X W (e :: es) k) (he : starEach (e :: es) X.env = (false, eval e X.env) :: starEach es X.env := by rfl) (hpl : (backTo pos (starEach es X.env)).any (·.1) = false := by rfl) : CE X W (.Call (.Name "max" p) (e :: es) [] pos) (dB kMax2 k) :=
  ce_bB C.toCf0 kMax2 (call_max2 C.calm) hg hm PyProof.Rows.boot_max ha (fun as Γ2 G H σ vs Q S h q => by
    unfold kMax2 at q
    split at q
    · obtain ⟨v, u, rfl, q1, q2⟩ := avs_two h
      exact ⟨_, _, by rw [dn_int q1, dn_int q2], Pk.v q S (.int _)⟩
    · exact q.elim) (by decide +kernel) (by decide +kernel) he hpl
theorem ce_min2 (C : Cf X W sc N) (hg : glB sc "min" = true) (hm : X.mg "min" = none) (ha : CA X W (e :: es) k) (he : starEach (e :: es) X.env = (false, eval e X.env) :: starEach es X.env := by rfl) (hpl : (backTo pos (starEach es X.env)).any (·.1) = false := by rfl) : CE X W (.Call (.Name "min" p) (e :: es) [] pos) (dB kMin2 k) :=
  ce_bB C.toCf0 kMin2 (call_min2 C.calm) hg hm (by decide +kernel) ha (fun as Γ2 G H σ vs Q S h q => by
    unfold kMin2 at q
    split at q
    · obtain ⟨v, u, rfl, q1, q2⟩ := avs_two h
      exact ⟨_, _, by rw [dn_int q1, dn_int q2], Pk.v q S (.int _)⟩
    · exact q.elim) (by decide +kernel) (by decide +kernel) he hpl
/-- a list of ints -/
def rdInts (Γ : List Sl) (x : AV) : Option (List Int) := match rdD Γ x with
  | some (.list ds) => intsOf ds
  | _ => none
theorem rdInts_ok {G : Gh} {H : Hp} {σ : St} {Γ : List Sl} {x : AV} {v : V} {ns : List Int} (S : Sta X.K G H σ Γ) (hv : AVok X.K G H σ v x) (h : rdInts Γ x = some ns) : ∃ l, v = .ref l ∧ SqL X.K H l (ns.map V.int) := by
  unfold rdInts at h
  split at h
  · rename_i ds hd
    obtain ⟨l, xs, rfl, g1, g2⟩ := dn_list ((rdD_ok hd).ok S hv)
    rw [intsOf_eq h] at g2
    rw [dna_ints g2] at g1
    exact ⟨l, rfl, g1.sq⟩
  · cases h
def kSum (Γ : List Sl) : List AV → R AV
  | [x] => (R.ofO (rdInts Γ x)).bind fun ns => .val (.d true (.int ns.sum))
  | _ => .bad
theorem ofO_cases {α β : Type} {o : Option α} {k : α → R β} : (∃ y, o = some y ∧ (R.ofO o).bind k = k y) ∨ (R.ofO o).bind k = .bad := by
  cases o with
  | none => exact .inr rfl
  | some y => exact .inl ⟨y, rfl, rfl⟩
theorem ce_sum (C : Cf X W sc N) (hg : glB sc "sum" = true) (hm : X.mg "sum" = none) (ha : CA X W [e] k) (he : starEach [e] X.env = (false, eval e X.env) :: starEach [] X.env := by rfl) : CE X W (.Call (.Name "sum" p) [e] [] pos) (dB kSum k) :=
  ce_bB C.toCf0 kSum (cr_sum C.calm) hg hm (by decide +kernel) ha (fun as Γ2 G H σ vs Q S h q => by
    unfold kSum at q
    split at q
    · rename_i x
      obtain ⟨v, rfl, hv⟩ := avs_one h
      rcases ofO_cases (o := rdInts Γ2 x) (k := fun ns => R.val (AV.d true (.int ns.sum))) with ⟨ns, e1, e2⟩ | e2
      · rw [e2] at q
        obtain ⟨l, rfl, hs⟩ := rdInts_ok S hv e1
        exact ⟨l, ns, rfl, hs, Pk.v q S (.int _)⟩
      · rw [e2] at q; exact q.elim
    · exact q.elim) (by decide +kernel) (by decide +kernel) he
def maxL : List Int → Option Int
  | [] => none
  | n :: ns => some (ns.foldl max2 n)
def minL : List Int → Option Int
  | [] => none
  | n :: ns => some (ns.foldl min2 n)
theorem fold_max : ∀ (ns : List Int) (n : Int), n ≤ ns.foldl max2 n ∧ (∀ y ∈ ns, y ≤ ns.foldl max2 n) ∧ (ns.foldl max2 n = n ∨ ns.foldl max2 n ∈ ns)
  | [], n => ⟨Int.le_refl _, by simp, .inl rfl⟩
  | m :: ns, n => by
    obtain ⟨h1, h2, h3⟩ := fold_max ns (max2 n m)
    rw [List.foldl_cons]
    have hn : n ≤ max2 n m ∧ m ≤ max2 n m ∧ (max2 n m = n ∨ max2 n m = m) := by unfold max2; split <;> omega
    refine ⟨by omega, fun y hy => ?_, ?_⟩
    · rcases List.mem_cons.mp hy with rfl | hy
      · omega
      · exact h2 y hy
    · rcases h3 with h3 | h3
      · rw [h3]; rcases hn.2.2 with e | e
        · exact .inl e
        · exact .inr (by rw [e]; simp)
      · exact .inr (by simp [h3])
theorem fold_min : ∀ (ns : List Int) (n : Int), ns.foldl min2 n ≤ n ∧ (∀ y ∈ ns, ns.foldl min2 n ≤ y) ∧ (ns.foldl min2 n = n ∨ ns.foldl min2 n ∈ ns)
  | [], n => ⟨Int.le_refl _, by simp, .inl rfl⟩
  | m :: ns, n => by
    obtain ⟨h1, h2, h3⟩ := fold_min ns (min2 n m)
    rw [List.foldl_cons]
    have hn : min2 n m ≤ n ∧ min2 n m ≤ m ∧ (min2 n m = n ∨ min2 n m = m) := by unfold min2; split <;> omega
    refine ⟨by omega, fun y hy => ?_, ?_⟩
    · rcases List.mem_cons.mp hy with rfl | hy
      · omega
      · exact h2 y hy
    · rcases h3 with h3 | h3
      · rw [h3]; rcases hn.2.2 with e | e
        · exact .inl e
        · exact .inr (by rw [e]; simp)
      · exact .inr (by simp [h3])
theorem maxL_ok {ns : List Int} {m : Int} (h : maxL ns = some m) : 0 < ns.length ∧ m ∈ ns ∧ ∀ y ∈ ns, y ≤ m := by
  cases ns with
  | nil => cases h
  | cons n ns =>
    cases h
    obtain ⟨h1, h2, h3⟩ := fold_max ns n
    refine ⟨by simp, by rcases h3 with e | e <;> simp [e], fun y hy => ?_⟩
    rcases List.mem_cons.mp hy with rfl | hy
    · exact h1
    · exact h2 y hy
theorem minL_ok {ns : List Int} {m : Int} (h : minL ns = some m) : 0 < ns.length ∧ m ∈ ns ∧ ∀ y ∈ ns, m ≤ y := by
  cases ns with
  | nil => cases h
  | cons n ns =>
    cases h
    obtain ⟨h1, h2, h3⟩ := fold_min ns n
    refine ⟨by simp, by rcases h3 with e | e <;> simp [e], fun y hy => ?_⟩
    rcases List.mem_cons.mp hy with rfl | hy
    · exact h1
    · exact h2 y hy
def kMax1 (Γ : List Sl) : List AV → R AV
  | [x] => (R.ofO ((rdInts Γ x).bind maxL)).bind fun m => .val (.d true (.int m))
  | _ => .bad
def kMin1 (Γ : List Sl) : List AV → R AV
  | [x] => (R.ofO ((rdInts Γ x).bind minL)).bind fun m => .val (.d true (.int m))
  | _ => .bad
theorem ce_max1 (C : Cf X W sc N) (hg : glB sc "max" = true) (hm : X.mg "max" = none) (ha : CA X W [e] k) (he : starEach [e] X.env = (false, eval e X.env) :: starEach [] X.env := by rfl) : CE X W (.Call (.Name "max" p) [e] [] pos) (dB kMax1 k) :=
  ce_bB C.toCf0 kMax1 (cr_max C.calm) hg hm PyProof.Rows.boot_max ha (fun as Γ2 G H σ vs Q S h q => by
    unfold kMax1 at q
    split at q
    · rename_i x
      obtain ⟨v, rfl, hv⟩ := avs_one h
      rcases ofO_cases (o := (rdInts Γ2 x).bind maxL) (k := fun m => R.val (AV.d true (.int m))) with ⟨m, e1, e2⟩ | e2
      · rw [e2] at q
        cases hns : rdInts Γ2 x with
        | none => rw [hns] at e1; cases e1
        | some ns =>
          rw [hns] at e1
          obtain ⟨l, rfl, hs⟩ := rdInts_ok S hv hns
          obtain ⟨h0, h1, h2⟩ := maxL_ok e1
          refine ⟨l, ns, rfl, hs, h0, fun m' hm' hb => ?_⟩
          have : m' = m := Int.le_antisymm (h2 m' hm') (hb m h1)
          subst this
          exact Pk.v q S (.int _)
      · rw [e2] at q; exact q.elim
    · exact q.elim) (by decide +kernel) (by decide +kernel) he
theorem ce_min1 (C : Cf X W sc N) (hg : glB sc "min" = true) (hm : X.mg "min" = none) (ha : CA X W [e] k) (he : starEach [e] X.env = (false, eval e X.env) :: starEach [] X.env := by rfl) : CE X W (.Call (.Name "min" p) [e] [] pos) (dB kMin1 k) :=
  ce_bB C.toCf0 kMin1 (cr_min C.calm) hg hm (by decide +kernel) ha (fun as Γ2 G H σ vs Q S h q => by
    unfold kMin1 at q
    split at q
    · rename_i x
      obtain ⟨v, rfl, hv⟩ := avs_one h
      rcases ofO_cases (o := (rdInts Γ2 x).bind minL) (k := fun m => R.val (AV.d true (.int m))) with ⟨m, e1, e2⟩ | e2
      · rw [e2] at q
        cases hns : rdInts Γ2 x with
        | none => rw [hns] at e1; cases e1
        | some ns =>
          rw [hns] at e1
          obtain ⟨l, rfl, hs⟩ := rdInts_ok S hv hns
          obtain ⟨h0, h1, h2⟩ := minL_ok e1
          refine ⟨l, ns, rfl, hs, h0, fun m' hm' hb => ?_⟩
          have : m' = m := Int.le_antisymm (hb m h1) (h2 m' hm')
          subst this
          exact Pk.v q S (.int _)
      · rw [e2] at q; exact q.elim
    · exact q.elim) (by decide +kernel) (by decide +kernel) he
def rdBools (Γ : List Sl) (x : AV) : Option (List Bool) := match rdD Γ x with
  | some (.list ds) => boolsOf ds
  | _ => none
theorem rdBools_ok {G : Gh} {H : Hp} {σ : St} {Γ : List Sl} {x : AV} {v : V} {ns : List Bool} (S : Sta X.K G H σ Γ) (hv : AVok X.K G H σ v x) (h : rdBools Γ x = some ns) : ∃ l, v = .ref l ∧ SqL X.K H l (ns.map V.bl) := by
  unfold rdBools at h
  split at h
  · rename_i ds hd
    obtain ⟨l, xs, rfl, g1, g2⟩ := dn_list ((rdD_ok hd).ok S hv)
    rw [boolsOf_eq h] at g2
    rw [dna_bools g2] at g1
    exact ⟨l, rfl, g1.sq⟩
  · cases h
def kAll (Γ : List Sl) : List AV → R AV
  | [x] => (R.ofO (rdBools Γ x)).bind fun ns => .val (.d true (.bool (ns.all id)))
  | _ => .bad
def kAny (Γ : List Sl) : List AV → R AV
  | [x] => (R.ofO (rdBools Γ x)).bind fun ns => .val (.d true (.bool (ns.any id)))
  | _ => .bad
theorem ce_all (C : Cf X W sc N) (hg : glB sc "all" = true) (hm : X.mg "all" = none) (ha : CA X W [e] k) (he : starEach [e] X.env = (false, eval e X.env) :: starEach [] X.env := by rfl) : CE X W (.Call (.Name "all" p) [e] [] pos) (dB kAll k) :=
  ce_bB C.toCf0 kAll (cr_all C.calm) hg hm PyProof.Rows.boot_all ha (fun as Γ2 G H σ vs Q S h q => by
    unfold kAll at q
    split at q
    · rename_i x
      obtain ⟨v, rfl, hv⟩ := avs_one h
      rcases ofO_cases (o := rdBools Γ2 x) (k := fun ns => R.val (AV.d true (.bool (ns.all id)))) with ⟨ns, e1, e2⟩ | e2
      · rw [e2] at q
        obtain ⟨l, rfl, hs⟩ := rdBools_ok S hv e1
        exact ⟨l, ns, rfl, hs, Pk.v q S (.bl _)⟩
      · rw [e2] at q; exact q.elim
    · exact q.elim) (by decide +kernel) (by decide +kernel) he
theorem ce_any (C : Cf X W sc N) (hg : glB sc "any" = true) (hm : X.mg "any" = none) (ha : CA X W [e] k) (he : starEach [e] X.env = (false, eval e X.env) :: starEach [] X.env := by rfl) : CE X W (.Call (.Name "any" p) [e] [] pos) (dB kAny k) :=
  ce_bB C.toCf0 kAny (cr_any C.calm) hg hm (by decide +kernel) ha (fun as Γ2 G H σ vs Q S h q => by
    unfold kAny at q
    split at q
    · rename_i x
      obtain ⟨v, rfl, hv⟩ := avs_one h
      rcases ofO_cases (o := rdBools Γ2 x) (k := fun ns => R.val (AV.d true (.bool (ns.any id)))) with ⟨ns, e1, e2⟩ | e2
      · rw [e2] at q
        obtain ⟨l, rfl, hs⟩ := rdBools_ok S hv e1
        exact ⟨l, ns, rfl, hs, Pk.v q S (.bl _)⟩
      · rw [e2] at q; exact q.elim
    · exact q.elim) (by decide +kernel) (by decide +kernel) he
/-- int(x) -/
def kInt (_ : List Sl) : List AV → R AV
  | [.d _ (.int i)] => .val (.d true (.int i))
  | [.d _ (.bool z)] => .val (.d true (.int (b2n z)))
  | _ => .bad
theorem ce_intc (C : Cf0 X W sc N) (hg : glB sc "int" = true) (hm : X.mg "int" = none) (ha : CA X W [e] k) (he : starEach [e] X.env = (false, eval e X.env) :: starEach [] X.env := by rfl) : CE X W (.Call (.Name "int" p) [e] [] pos) (dB kInt k) :=
  ce_bT C kInt call_int1 hg hm PyProof.Rows.boot_int ha (fun as Γ2 G H σ vs Q S h q => by
    unfold kInt at q
    split at q
    · obtain ⟨v, rfl, hv⟩ := avs_one h
      exact .inl ⟨_, by rw [dn_int hv], Pk.v q S (.int _)⟩
    · obtain ⟨v, rfl, hv⟩ := avs_one h
      exact .inr ⟨_, by rw [dn_bool hv], Pk.v q S (.int _)⟩
    · exact q.elim) (by decide +kernel) (by decide +kernel) he
/-- the items of a list or tuple, and whether they are new -/
def rdSeq (Γ : List Sl) : AV → Option (List PyData × Bool)
  | .d fr (.list ds) => some (ds, fr)
  | .d fr (.tuple ds) => some (ds, fr)
  | .s i => match rdD Γ (.s i) with
    | some (.list ds) => some (ds, true)
    | _ => none
  | _ => none
theorem rdSeq_ok {G : Gh} {H : Hp} {σ : St} {Γ : List Sl} {x : AV} {v : V} {z : List PyData × Bool} (S : Sta X.K G H σ Γ) (hv : AVok X.K G H σ v x) (h : rdSeq Γ x = some z) : ∃ l xs, v = .ref l ∧ (SqL X.K H l xs ∨ H l = some (.tup xs)) ∧ DnA X.K (rg G z.2) H xs z.1 := by
  unfold rdSeq at h
  split at h
  · cases h
    obtain ⟨l, xs, rfl, g1, g2⟩ := dn_list hv
    exact ⟨l, xs, rfl, .inl (g1.mono (S.w.rgl _)).sq, g2⟩
  · cases h
    obtain ⟨l, xs, rfl, g1, g2⟩ := dn_tupleH hv
    exact ⟨l, xs, rfl, .inr g1, g2⟩
  · split at h
    · rename_i ds hd
      cases h
      obtain ⟨l, xs, rfl, g1, g2⟩ := S.slotL hd hv
      exact ⟨l, xs, rfl, .inl (SqL.of g1), g2⟩
    · cases h
  · cases h
def kTuple (Γ : List Sl) : List AV → R AV
  | [x] => (R.ofO (rdSeq Γ x)).bind fun z => .val (.d z.2 (.tuple z.1))
  | _ => .bad
theorem ce_tuple (C : Cf0 X W sc N) (hg : glB sc "tuple" = true) (hm : X.mg "tuple" = none) (ha : CA X W [e] k) (he : starEach [e] X.env = (false, eval e X.env) :: starEach [] X.env := by rfl) : CE X W (.Call (.Name "tuple" p) [e] [] pos) (dB kTuple k) :=
  ce_bT C kTuple call_tuple_of hg hm PyProof.Rows.boot_tuple ha (fun as Γ2 G H σ vs Q S h q => by
    unfold kTuple at q
    split at q
    · rename_i x
      obtain ⟨v, rfl, hv⟩ := avs_one h
      rcases ofO_cases (o := rdSeq Γ2 x) (k := fun z => R.val (AV.d z.2 (.tuple z.1))) with ⟨z, e1, e2⟩ | e2
      · rw [e2] at q
        obtain ⟨l, xs, rfl, hs, hd⟩ := rdSeq_ok S hv e1
        refine ⟨l, xs, rfl, hs.imp (fun hs => ⟨hs, fun l' hl => ?_⟩) fun hs => ⟨SqT.of hs, Pk.v q S (.tup hs hd)⟩⟩
        obtain ⟨G2, S2, e2, h2⟩ := S.newTup hl hd
        exact Pk.v' q e2 S2 h2
      · rw [e2] at q; exact q.elim
    · exact q.elim) (by decide +kernel) (by decide +kernel) he
/-- list(x): what it holds is new or holds no list -/
def kList (Γ : List Sl) : List AV → R (List PyData)
  | [x] => (R.ofO (rdSeq Γ x)).bind fun z => gq (z.2 || flat.flatA z.1) z.1
  | _ => .bad
theorem cn_list (C : Cf0 X W sc N) (hg : glB sc "list" = true) (hm : X.mg "list" = none) (ha : CA X W [e] k) (he : starEach [e] X.env = (false, eval e X.env) :: starEach [] X.env := by rfl) : CN X W (.Call (.Name "list" p) [e] [] pos) (dBN kList k) :=
  cn_bT C kList call_list_of hg hm PyProof.Rows.boot_list ha (fun as Γ2 G H σ vs Q S h q => by
    unfold kList at q
    split at q
    · rename_i x
      obtain ⟨v, rfl, hv⟩ := avs_one h
      rcases ofO_cases (o := rdSeq Γ2 x) (k := fun z => gq (z.2 || flat.flatA z.1) z.1) with ⟨z, e1, e2⟩ | e2
      · rw [e2] at q
        obtain ⟨l, xs, rfl, hs, hd⟩ := rdSeq_ok S hv e1
        rcases gq_cases (z.2 || flat.flatA z.1) z.1 with e | ⟨hc, e⟩
        · rw [e] at q; exact q.elim
        · rw [e] at q
          refine ⟨l, xs, rfl, hs.imp id SqT.of, fun l' hl => Pn.v q S hl ?_⟩
          obtain ⟨ds, fr⟩ := z
          cases fr with
          | true => exact hd
          | false => exact hd.free (by simpa using hc)
      · rw [e2] at q; exact q.elim
    · exact q.elim) (by decide +kernel) (by decide +kernel) he
/-- sorted(ints) -/
def kSorted (Γ : List Sl) : List AV → R (List PyData)
  | [x] => (R.ofO (rdInts Γ x)).bind fun ns => .val ((sortI ns).map PyData.int)
  | _ => .bad
theorem cn_sorted (C : Cf0 X W sc N) (hg : glB sc "sorted" = true) (hm : X.mg "sorted" = none) (ha : CA X W [e] k) (he : starEach [e] X.env = (false, eval e X.env) :: starEach [] X.env := by rfl) : CN X W (.Call (.Name "sorted" p) [e] [] pos) (dBN kSorted k) :=
  cn_bB C kSorted cr_sortedI hg hm PyProof.Rows.boot_sorted ha (fun as Γ2 G H σ vs Q S h q => by
    unfold kSorted at q
    split at q
    · rename_i x
      obtain ⟨v, rfl, hv⟩ := avs_one h
      rcases ofO_cases (o := rdInts Γ2 x) (k := fun ns => R.val ((sortI ns).map PyData.int)) with ⟨ns, e1, e2⟩ | e2
      · rw [e2] at q
        obtain ⟨l, rfl, hs⟩ := rdInts_ok S hv e1
        refine ⟨l, ns, rfl, hs, fun ns' p' hp hs' hp' => ?_⟩
        rw [sortI_unique hp hs']
        exact Pn.v q S hp' (ints_dna _)
      · rw [e2] at q; exact q.elim
    · exact q.elim) (by decide +kernel) (by decide +kernel) he
/-- sorted(set(ints)) -/
def kSset (Γ : List Sl) (x : AV) : R (List PyData) := match rdSeq Γ x with
  | some z => (R.ofO (intsOf z.1)).bind fun ns => gq (lt64 ns) ((setI ns).map PyData.int)
  | none => .bad
def dSset (f : DF) : DN := fun Γ => (f Γ).bind fun z => (kSset z.2 z.1).bind fun y => .val (y, z.2)
theorem cn_sset (C : Cf X W sc N) {p2 q2 : Pos} (hg : glB sc "sorted" = true) (hm : X.mg "sorted" = none) (hg2 : glB sc "set" = true) (hm2 : X.mg "set" = none) (ha : CE X W a f) (na : starEach [a] X.env = (false, eval a X.env) :: starEach [] X.env := by rfl) : CN X W (.Call (.Name "sorted" p) [.Call (.Name "set" p2) [a] [] q2] [] pos) (dSset f) := fun Γ =>
  pe_imp (pe_sset C.calm (C.gl hg) hm (C.gl hg2) hm2 (ha Γ) na) fun σ H Q ⟨G, S, q⟩ => ⟨G, S, (Pst.bind q).imp fun x G1 H1 e1 p1 v S1 hv => by
    unfold kSset at p1
    split at p1
    · rename_i z hz
      obtain ⟨l, xs, rfl, hs, hd⟩ := rdSeq_ok S1 hv hz
      cases hi : intsOf z.1 with
      | none => rw [hi] at p1; exact p1.elim
      | some ns =>
        rw [hi] at p1
        rcases gq_cases (lt64 ns) ((setI ns).map PyData.int) with e | ⟨hc, e⟩
        · have p1 : Pst X W G1 H1 σ ((gq (lt64 ns) ((setI ns).map PyData.int)).bind fun y => .val (y, x.2)) _ := p1
          rw [e] at p1; exact p1.elim
        · have p1 : Pst X W G1 H1 σ ((gq (lt64 ns) ((setI ns).map PyData.int)).bind fun y => .val (y, x.2)) _ := p1
          rw [e] at p1
          rw [intsOf_eq hi] at hd
          rw [dna_ints hd] at hs
          exact ⟨l, ns, rfl, hs.imp id SqT.of, of_decide_eq_true hc, fun q hq => p1 G1 H1 (Ext.rf S1.w) q _ S1 hq (ints_dna _)⟩
    · exact p1.elim⟩
/-! ## isinstance -/
inductive Tn where
  | int | bool | str | list | tuple | dict
def Tn.nm : Tn → String
  | .int => "int"
  | .bool => "bool"
  | .str => "str"
  | .list => "list"
  | .tuple => "tuple"
  | .dict => "dict"
def tyIs : PyData → Tn → Bool
  | .bool _, .int => true
  | .bool _, .bool => true
  | .int _, .int => true
  | .str _, .str => true
  | .list _, .list => true
  | .tuple _, .tuple => true
  | .dict _, .dict => true
  | _, _ => false
theorem tyIs_kit (d : PyData) (t : Tn) : kitB (pyTy d) t.nm = some (tyIs d t) := by
  cases d <;> cases t <;> simp only [pyTy, Tn.nm, tyIs] <;> decide +kernel
def noDct : PyData → Bool
  | .dict _ => false
  | _ => true
theorem dn_ty {K : PySem.W.Frag} {H : Hp} {v : V} {d : PyData} (h : Dn K (RgH H) H v d) (hn : noDct d = true) : TyX K H v (.type (pyTy d)) := by
  cases h with
  | non => exact .base .non
  | bl b => exact .base (.bl b)
  | int i => exact .base (.int i)
  | str x => exact .base (.str x)
  | lst h _ =>
    rcases h.sq with (h | ⟨o, h⟩) | ⟨o, its, n, h1, h2, _⟩
    · exact .base (.lst h)
    · exact .base (.frz h)
    · exact .kList h1 h2
  | tup h _ => exact .base (.tup h)
  | dct _ _ _ => cases hn
  | exc _ _ _ _ => cases hn
  | exc0 _ => cases hn
def dIsi (ts : List Tn) (f : DF) : DF := fun Γ => (f Γ).bind fun x => match rdD x.2 x.1 with
  | some d => gq (noDct d) (.d true (.bool (ts.any fun t => tyIs d t)), x.2)
  | none => .bad
theorem ce_isi (C : Cf0 X W sc N) (t : Tn) {T : Str} {p2 : Pos} (hg : glB sc "isinstance" = true) (hm : X.mg "isinstance" = none) (hgT : glB sc T = true) (hmT : X.mg T = none) (hv : bootBuiltins T = some (.type t.nm)) (ha : CE X W e f)
    (hnT : T ≠ "__name__" := by decide +kernel) (hdT : (T == ("__debug__" : Str)) = false := by decide +kernel) (hst : starEach [e, .Name T p2] X.env = (false, eval e X.env) :: starEach [.Name T p2] X.env := by rfl) (hst2 : starEach [.Name T p2] X.env = (false, eval (.Name T p2) X.env) :: starEach [] X.env := by rfl) :
    CE X W (.Call (.Name "isinstance" p) [e, .Name T p2] [] pos) (dIsi [t] f) := fun Γ => by
  have hT : PE X (.Name T p2) (tC (.ty t.nm)) := pe_bltn (C.gl hgT) hmT hv rfl hnT hdT
  refine pe_imp (pe_callB call_isi (C.gl hg) hm PyProof.Rows.boot_isinstance (pa_cons (ha Γ) (pa_cons hT pa_nil hst2) hst) (by decide +kernel) (by decide +kernel) hst (by rw [hst2]; rfl)) fun σ H Q ⟨G, S, q⟩ => ⟨G, S, (Pst.bind q).imp fun x G1 H1 e1 p1 v S1 hv => ?_⟩
  split at p1
  · rename_i d hd
    obtain ⟨hn, p1⟩ := Pst.gq S1.w p1
    refine ⟨v, .ty t.nm, .type (pyTy d), .type t.nm, tyIs d t, rfl, .ty t.nm, dn_ty ((rdD_ok hd).ok S1 hv) hn, kit_ty (tyIs_kit d t), ?_⟩
    have := p1 (.bl (tyIs d t)) S1 (by show Dn _ _ _ _ (.bool (tyIs d t || false)); rw [Bool.or_false]; exact .bl _)
    exact this
  · exact p1.elim
end
end PD


set_option Elab.async false
set_option linter.all false
set_option maxRecDepth 100000
set_option maxHeartbeats 4000000
set_option autoImplicit false
namespace PD
open PySem L2
/-! ## comprehensions -/
def R.nox {α : Type} : R α → R α
  | .exc _ => .bad
  | m => m
abbrev WF : WX := fun _ _ _ _ => False
section
variable {X : Cx} {W : WX} {sc : Scope} {N : List Str} {Γ : List Sl}
theorem Cf.blk (C : Cf X W sc N) {s : Shared} {H : Hp} {scope : Scope} {cl : List (Str × Addr)} {c : Addr} {fp : List Addr} : Cf (X.blk s H scope (compEnvC scope cl c X.env) fp) WF (relS scope sc) N := by
  refine ⟨⟨?_, C.hN, C.nd, takes0, C.hu, PassesOwn.never, C.hu2⟩, C.calm⟩
  show relabel scope X.env = relS scope sc
  rw [← C.hsc]
  rfl
theorem Clee.blk {x : Str} {dvs : List V} {sp : Sp} (h : Clee X x dvs sp) {s : Shared} {H : Hp} {scope : Scope} {ce : Env} {fp : List Addr} : Clee (X.blk s H scope ce fp) x dvs sp := h
theorem Sta.wipeS {K : PySem.W.Frag} {G : Gh} {H : Hp} {σ : St} {Γ : List Sl} (S : Sta K G H σ Γ) : ∀ vs : List Nat, Sta K G H (L2.wipe σ vs) (wipeG Γ vs)
  | [] => S
  | v :: vs => (Sta.wipeS S vs).blank v none
theorem wipeG_at {Γ : List Sl} : ∀ {vs : List Nat} {i : Nat}, i ∈ vs → i < Γ.length → (wipeG Γ vs)[i]? = some .un
  | v :: vs, i, h, hl => by
    have hlen : ∀ ws : List Nat, (wipeG Γ ws).length = Γ.length := fun ws => by
      induction ws with
      | nil => rfl
      | cons w ws ih => simp [wipeG, ih]
    by_cases q : i = v
    · subst q
      exact List.getElem?_set_self (by rw [hlen]; exact hl)
    · have h' : i ∈ vs := by
        rcases List.mem_cons.mp h with z | z
        · exact absurd z q
        · exact z
      show ((wipeG Γ vs).set v .un)[i]? = some .un
      rw [List.getElem?_set_ne (Ne.symm q)]
      exact wipeG_at h' hl
theorem wipe_eq {σ σ' : St} {vs ts : List Nat} (hl : σ'.length = σ.length) (h : ∀ j, j ∉ ts → σ'[j]? = σ[j]?) (hs : ∀ j ∈ ts, j ∈ vs) : wipe σ' vs = wipe σ vs := by
  have at_ : ∀ (ρ : St) (ws : List Nat) (j : Nat), j ∈ ws → j < ρ.length → (wipe ρ ws)[j]? = some none := fun ρ ws => by
    induction ws with
    | nil => intro j hj; cases hj
    | cons w ws ih =>
      intro j hj hl
      by_cases q : j = w
      · subst q
        exact List.getElem?_set_self (by rw [wipe_length]; exact hl)
      · show ((wipe ρ ws).set w none)[j]? = some none
        rw [List.getElem?_set_ne (Ne.symm q)]
        refine ih j ?_ hl
        rcases List.mem_cons.mp hj with z | z
        · exact absurd z q
        · exact z
  refine List.ext_getElem? fun j => ?_
  by_cases hj : j ∈ vs
  · by_cases hlt : j < σ.length
    · rw [at_ σ' vs j hj (by rw [hl]; exact hlt), at_ σ vs j hj hlt]
    · rw [List.getElem?_eq_none (by rw [wipe_length, hl]; omega), List.getElem?_eq_none (by rw [wipe_length]; omega)]
  · rw [wipe_out hj, wipe_out hj]
    exact h j fun z => hj (hs j z)

def compU (vs : List Nat) (g : DG) (fr : Bool) (t : DT) (e : DF) : List PyData → List Sl → R (List PyData × List Sl)
  | [], Γ => .val ([], Γ)
  | d :: ds, Γ => (R.ofO (g fr d Γ)).bind fun Γ1 => (t Γ1).nox.bind fun x => if x.1 then (e x.2).nox.bind fun y => (R.ofO (avD y.1)).bind fun o => (compU vs g fr t e ds (wipeG y.2 vs)).bind fun r => .val (o :: r.1, r.2) else compU vs g fr t e ds (wipeG x.2 vs)
theorem compU_cons (vs : List Nat) (g : DG) (fr : Bool) (t : DT) (e : DF) (d : PyData) (ds : List PyData) (Γ : List Sl) : compU vs g fr t e (d :: ds) Γ = (R.ofO (g fr d Γ)).bind fun Γ1 => (t Γ1).nox.bind fun x => if x.1 then (e x.2).nox.bind fun y => (R.ofO (avD y.1)).bind fun o => (compU vs g fr t e ds (wipeG y.2 vs)).bind fun r => .val (o :: r.1, r.2) else compU vs g fr t e ds (wipeG x.2 vs) := rfl
def nComp (vs : List Nat) (g : DG) (it : DI) (t : DT) (e : DF) : DN := fun Γ => (it Γ).bind fun z => (R.req (szB z.1.1)).bind fun _ => compU vs g z.1.2 t e z.1.1 (wipeG z.2 vs)
def CTs (X : Cx) (W : WX) (es : List Expr) (f : DT) : Prop := ∀ Γ, PTs X es (rdT X W Γ (f Γ) Prod.fst Prod.snd)
theorem cts_one {e : Expr} {t : DT} (h : CT X W e t) : CTs X W [e] t := fun Γ => pts_one (h Γ)
def tYes : DT := fun Γ => .val (true, Γ)
theorem cts_nil : CTs X W [] tYes := fun Γ => ⟨fun pins s' σ H Q I ⟨G, S, p⟩ => pts_nil.run pins s' σ H Q I (p G H (Ext.rf S.w) S)⟩
variable {tg iter elt : Expr} {ifs : List Expr} {scope : Scope} {own : List (Str × Nat)} {pos : Pos} {it : DI} {g : DG} {t : DT} {e : DF} {ts : List Nat}
theorem comp_rdU (hts : ∀ j ∈ ts, j ∈ own.map (·.2)) {σ : St} {H : Hp} {Q : VK} (h : rdF X W Γ (nComp (own.map (·.2)) g it t e Γ) Prod.fst Prod.snd σ H Q) :
    tLc (rdIU X W Γ (it Γ)) (fun v σ H Q => ∃ G Γ fr d Γ', Sta X.K G H σ Γ ∧ Dn X.K (rg G fr) H v d ∧ g fr d Γ = some Γ' ∧ ∀ σ', σ'.length = σ.length → (∀ j, j ∉ ts → σ'[j]? = σ[j]?) → Sta X.K G H σ' Γ' → Q σ' H)
      (fun σ H Q => ∃ Γ1, rdT X WF Γ1 (t Γ1) Prod.fst Prod.snd σ H Q) (fun σ H Q => ∃ Γ1, rdE X WF Γ1 (e Γ1) Prod.fst Prod.snd σ H Q) (own.map (·.2)) σ H Q := by
  obtain ⟨G, S0, p⟩ := h
  refine ⟨G, S0, (Pst.bind p).imp fun r G1 H1 e1 p1 J S1 I D hD => ?_⟩
  generalize hvs : own.map (·.2) = vs at *
  obtain ⟨⟨items, fr⟩, Γ1⟩ := r
  obtain ⟨hsz, p1⟩ := Pst.req p1
  simp only at hsz p1 I S1
  have hsz : items.length ≤ sizeLine := of_decide_eq_true hsz
  have hE0 : G1.E D = none := by
    cases q : G1.E D with
    | none => rfl
    | some u => rw [(S1.w.ex D u q).1] at hD; cases hD
  have hww : L2.wipe (L2.wipe σ vs) vs = L2.wipe σ vs := wipe_eq (ts := vs) (wipe_length ..) (fun j hj => wipe_out hj) (fun j hj => hj)
  have nol : ∀ vs' : List V, (∀ xs, HO.lst vs' ≠ .tup xs) ∧ ∀ x y, HO.lst vs' ≠ .frz x y := fun vs' => ⟨fun _ z => (by cases z), fun _ _ z => (by cases z)⟩
  let cu : List PyData → List Sl → R (List PyData × List Sl) := compU vs g fr t e
  let body : Nat → Hp → Prop := fun i H2 => i ≤ items.length ∧ ∃ G2 s0 vacc bs, Sta X.K G2 H2 (L2.wipe σ vs) (wipeG s0 vs) ∧ Le G1 H1 G2 H2 ∧ G2.E = upd G1.E D (.lst vacc) ∧ G2.I = G1.I ∧ DnA X.K (rg G2 true) H2 vacc bs ∧ bs.length ≤ i ∧
    compU vs g fr t e items (wipeG Γ1 vs) = (compU vs g fr t e (items.drop i) (wipeG s0 vs)).bind fun z => .val (bs ++ z.1, z.2)
  refine ⟨fun i m H2 => m = items.length - i ∧ body i H2, ⟨_, rfl, Nat.zero_le _, ?_⟩, ?_⟩
  · have Sw : Sta X.K G1 H1 (L2.wipe σ vs) (wipeG Γ1 vs) := S1.wipeS vs
    obtain ⟨S2, t2⟩ := Sw.pin (o := .lst []) hD
    refine ⟨_, Γ1, [], [], S2, ⟨rfl, rfl, fun _ _ h => h, fun _ _ h => .inl h, t2, S2.w⟩, rfl, rfl, .nil, Nat.le_refl _, ?_⟩
    rw [List.drop_zero]
    have : (fun z : List PyData × List Sl => R.val ([] ++ z.1, z.2)) = fun z => R.val z := rfl
    rw [this, R.bind_val]
  · rintro i m H2 ⟨rfl, hile, G2, s0, vacc, bs, S2, l2, hE2, hI2, d2, hbs, eq⟩
    by_cases hlt : i < items.length
    · rw [List.drop_eq_getElem_cons hlt, compU_cons, R.bind_assoc] at eq
      cases hg : g fr items[i] (wipeG s0 vs) with
      | none => rw [hg] at eq; rw [eq] at p1; exact p1.elim
      | some Γ3 =>
      rw [hg] at eq
      have eq : compU vs g fr t e items (wipeG Γ1 vs) = ((t Γ3).nox.bind fun x => if x.1 then (e x.2).nox.bind fun y => (R.ofO (avD y.1)).bind fun o => (compU vs g fr t e (items.drop (i + 1)) (wipeG y.2 vs)).bind fun r => .val (o :: r.1, r.2) else compU vs g fr t e (items.drop (i + 1)) (wipeG x.2 vs)).bind fun z => .val (bs ++ z.1, z.2) := eq
      rw [R.bind_assoc] at eq
      refine .inr ⟨I.go i G2 H2 hlt l2, body (i + 1), fun H' hb => ⟨_, (by omega), rfl, hb⟩, fun v H3 y => ?_⟩
      obtain ⟨G3, d, hd, e3, S3, dn⟩ := I.yl i G2 H2 _ _ v H3 hlt l2 S2 y
      have hx : d = items[i] := by
        rw [List.getElem?_eq_getElem hlt] at hd
        exact (Option.some.inj hd).symm
      subst hx
      refine ⟨G3, wipeG s0 vs, fr, items[i], Γ3, S3, dn, hg, fun σ2 l3 k3 S4 => ⟨(wipe_eq l3 k3 hts).trans hww, Γ3, G3, S4, ?_⟩⟩
      have hw2 : L2.wipe σ2 vs = L2.wipe σ vs := (wipe_eq l3 k3 hts).trans hww
      cases htt : t Γ3 with
      | bad => rw [htt] at eq; rw [eq] at p1; exact p1.elim
      | exc z => rw [htt] at eq; rw [eq] at p1; exact p1.elim
      | val x =>
        rw [htt] at eq
        intro G4 H4 e4 S5
        obtain ⟨b, Γ4⟩ := x
        have eq : compU vs g fr t e items (wipeG Γ1 vs) = (if b = true then (e Γ4).nox.bind fun y => (R.ofO (avD y.1)).bind fun o => (compU vs g fr t e (items.drop (i + 1)) (wipeG y.2 vs)).bind fun r => .val (o :: r.1, r.2) else compU vs g fr t e (items.drop (i + 1)) (wipeG Γ4 vs)).bind fun z => .val (bs ++ z.1, z.2) := eq
        have l4 : Le G1 H1 G4 H4 := (l2.tr e3.le).tr e4.le
        have hE4 : G4.E = upd G1.E D (.lst vacc) := e4.e.trans (e3.e.trans hE2)
        have hI4 : G4.I = G1.I := e4.i.trans (e3.i.trans hI2)
        have d4 : DnA X.K (rg G4 true) H4 vacc bs := e4.dna (e3.dna d2)
        cases b with
        | false =>
          refine itF ⟨hlt, G4, Γ4, vacc, bs, ?_, l4, hE4, hI4, d4, Nat.le_succ_of_le hbs, ?_⟩
          · rw [← hw2]
            exact S5.wipeS vs
          · rw [eq, if_neg (by simp)]
        | true =>
          rw [if_pos rfl, R.bind_assoc] at eq
          refine itT ⟨Γ4, G4, S5, ?_⟩
          cases hte : e Γ4 with
          | bad => rw [hte] at eq; rw [eq] at p1; exact p1.elim
          | exc z => rw [hte] at eq; rw [eq] at p1; exact p1.elim
          | val z =>
            rw [hte] at eq
            obtain ⟨av, Γ5⟩ := z
            have eq : compU vs g fr t e items (wipeG Γ1 vs) = ((R.ofO (avD av)).bind fun o => (compU vs g fr t e (items.drop (i + 1)) (wipeG Γ5 vs)).bind fun r => .val (o :: r.1, r.2)).bind fun z => .val (bs ++ z.1, z.2) := eq
            cases hav : avD av with
            | none => rw [hav] at eq; rw [eq] at p1; exact p1.elim
            | some o =>
            rw [hav] at eq
            have eq : compU vs g fr t e items (wipeG Γ1 vs) = ((compU vs g fr t e (items.drop (i + 1)) (wipeG Γ5 vs)).bind fun r => .val (o :: r.1, r.2)).bind fun z => .val (bs ++ z.1, z.2) := eq
            intro G5 H5 e5 yv S6 dy
            have dy : Dn X.K (rg G5 true) H5 yv o := by
              unfold avD at hav
              split at hav
              · cases hav; exact dy
              · cases hav
            have hE5 : G5.E = upd G1.E D (.lst vacc) := e5.e.trans hE4
            obtain ⟨S7, hHD, t7⟩ := (S6.wipeS vs).unpin hE5 hE0 (nol vacc).1 (nol vacc).2
            have hal : vacc.length = bs.length := d4.length
            refine ⟨vacc, hHD, by omega, ?_⟩
            obtain ⟨S8, t8⟩ := S7.pin (o := .lst (vacc ++ [yv])) del_same
            have hH : upd (PD.del H5 D) D (.lst (vacc ++ [yv])) = upd H5 D (.lst (vacc ++ [yv])) := by
              funext b
              by_cases q : b = D
              · subst q; rw [upd_same, upd_same]
              · rw [upd_ne q, upd_ne q, del_ne q]
            rw [hH] at S8 t8
            have t9 : TupLe H5 (upd H5 D (.lst (vacc ++ [yv]))) := t7.tr t8
            refine ⟨hlt, ⟨G5.H0, G5.P, G5.I, G5.N, upd G1.E D (.lst (vacc ++ [yv]))⟩, Γ5, vacc ++ [yv], bs ++ [o], ?_, ⟨(l4.tr e5.le).h0, (l4.tr e5.le).p, (l4.tr e5.le).n, (l4.tr e5.le).nn, (l4.tr e5.le).t.tr t9, S8.w⟩, rfl, e5.i.trans hI4, ?_, ?_, ?_⟩
            · rw [← hw2]
              exact S8
            · exact ((e5.dna d4).append (.cons dy .nil)).mono (fun _ _ h => h) t9
            · rw [List.length_append]
              show bs.length + 1 ≤ i + 1
              omega
            · rw [eq, R.bind_assoc]
              congr 1
              funext q
              show R.val (bs ++ o :: q.1, q.2) = R.val (bs ++ [o] ++ q.1, q.2)
              rw [List.append_assoc]
              rfl
    · have ei : i = items.length := by omega
      subst ei
      refine .inl ⟨I.st G2 H2 l2, ?_⟩
      rw [List.drop_length] at eq
      have eq : compU vs g fr t e items (wipeG Γ1 vs) = .val (bs ++ [], wipeG s0 vs) := eq
      rw [List.append_nil] at eq
      rw [eq] at p1
      obtain ⟨S7, hHD, t7⟩ := S2.unpin hE2 hE0 (nol vacc).1 (nol vacc).2
      have P := p1 ⟨G2.H0, G2.P, G2.I, G2.N, G1.E⟩ (PD.del H2 D) ⟨l2.h0, l2.p, hI2, rfl, l2.n, l2.nn, l2.t.tr t7, S7.w⟩ D vacc (S7.swap (wipe_length ..).symm fun j => ?_) del_same (d2.mono (fun _ _ h => h) t7)
      · rw [del_upd hHD] at P
        exact P
      · have hlen : ∀ ws : List Nat, (wipeG s0 ws).length = s0.length := fun ws => by
          induction ws with
          | nil => rfl
          | cons w ws ih => simp [wipeG, ih]
        by_cases hj : j ∈ vs
        · by_cases hjl : j < s0.length
          · exact .inr (wipeG_at hj hjl)
          · left
            obtain ⟨A7, Z7⟩ := S7
            have : s0.length = σ.length := by rw [← hlen vs, Z7.len, wipe_length]
            rw [List.getElem?_eq_none (by omega), List.getElem?_eq_none (by rw [wipe_length]; omega)]
        · exact .inl (wipe_out hj).symm
/-- [elt for tg in iter if ..] -/
structure CompU (X : Cx) (W : WX) (sc : Scope) (N : List Str) (tg iter elt : Expr) (ifs : List Expr) (scope : Scope) (own : List (Str × Nat)) (ts : List Nat) (g : DG) (it : DI) (t : DT) (e : DF) : Prop where
  hin : CI X W tg iter it
  ok : blkC N sc scope own = true
  hg : ∀ (s : Shared) (H : Hp) (c : Addr) (cl : List (Str × Addr)) (fp : List Addr), CG (X.blk s H scope (compEnvC scope cl c X.env) fp) tg ts g
  ht : ∀ (s : Shared) (H : Hp) (c : Addr) (cl : List (Str × Addr)) (fp : List Addr), CTs (X.blk s H scope (compEnvC scope cl c X.env) fp) WF ifs t
  he : ∀ (s : Shared) (H : Hp) (c : Addr) (cl : List (Str × Addr)) (fp : List Addr), CE (X.blk s H scope (compEnvC scope cl c X.env) fp) WF elt e
  hts : ∀ j ∈ ts, j ∈ own.map (·.2)
  hs : ∀ x, foldedSetIterable iter X.env x = pure x
theorem cn_comp (C : Cf X W sc N) (h : CompU X W sc N tg iter elt ifs scope own ts g it t e) : CN X W (.ListComp elt [⟨tg, iter, ifs, 0⟩] scope pos) (nComp (own.map (·.2)) g it t e) := fun Γ => by
  have hB : BlkOk X.N X.env.scope scope own := by rw [C.hN, C.hsc]; exact blkOk_by h.ok
  refine pe_imp (pe_lc (g := fun v σ H Q => ∃ G Γ fr d Γ', Sta X.K G H σ Γ ∧ Dn X.K (rg G fr) H v d ∧ g fr d Γ = some Γ' ∧ ∀ σ' : St, List.length σ' = List.length σ → (∀ j, j ∉ ts → σ'[j]? = σ[j]?) → Sta X.K G H σ' Γ' → Q σ' H)
    (tt := fun σ H Q => ∃ Γ1, rdT X WF Γ1 (t Γ1) Prod.fst Prod.snd σ H Q) (te := fun σ H Q => ∃ Γ1, rdE X WF Γ1 (e Γ1) Prod.fst Prod.snd σ H Q)
    C.calm (by rw [C.hN]; exact C.nd) (h.hin Γ) hB (fun s H c cl fp => h.hg s H c cl fp) (fun s H c cl fp => ?_) (fun s H c cl fp => ?_) h.hs) fun σ H Q q => comp_rdU h.hts q
  · exact ⟨fun pins s' σ H' Q I ⟨z, q⟩ => (h.ht s H c cl fp z).run pins s' σ H' Q I q⟩
  · exact ⟨fun pins s' σ H' Q I ⟨z, q⟩ => (h.he s H c cl fp z).run pins s' σ H' Q I q⟩
/-- name = [..] on one line -/
theorem set_lc (C : Cf X W sc N) (hk : sc.kind = .function) {i : Nat} {y : Str} {py spos : Pos} (hN : N[i]? = some y) (hy : lclB sc y = true) (hl : (py.line == pos.line) = true) (hnn : (scope.names.any fun (n, k) => n == y && (k == .local || k == .cell)) = false)
    (h : CompU X W sc N tg iter elt ifs scope own ts g it t e) (Γ : List Sl) : PS X (.Assign [.Name y py] (.ListComp elt [⟨tg, iter, ifs, 0⟩] scope pos) spos) (fun D σ H => rdF X W Γ (nComp (own.map (·.2)) g it t e Γ) Prod.fst Prod.snd σ H fun v H1 => D.nx (σ.set i (some v)) H1) := by
  have hB : BlkOk X.N X.env.scope scope own := by rw [C.hN, C.hsc]; exact blkOk_by h.ok
  have hyl : X.env.scope.names.lookup y = some .local := by
    rw [C.hsc]
    unfold lclB at hy
    split at hy
    · assumption
    · cases hy
  refine ps_imp (ps_setLc (g := fun v σ H Q => ∃ G Γ fr d Γ', Sta X.K G H σ Γ ∧ Dn X.K (rg G fr) H v d ∧ g fr d Γ = some Γ' ∧ ∀ σ' : St, List.length σ' = List.length σ → (∀ j, j ∉ ts → σ'[j]? = σ[j]?) → Sta X.K G H σ' Γ' → Q σ' H)
    (tt := fun σ H Q => ∃ Γ1, rdT X WF Γ1 (t Γ1) Prod.fst Prod.snd σ H Q) (te := fun σ H Q => ∃ Γ1, rdE X WF Γ1 (e Γ1) Prod.fst Prod.snd σ H Q)
    C.calm (by rw [C.hN]; exact C.nd) (by rw [C.hN]; exact hN) hyl (sw_true (by rw [C.hsc]; exact hk) hyl hl hnn) (h.hin Γ) hB (fun s H c cl fp => h.hg s H c cl fp) (fun s H c cl fp => ?_) (fun s H c cl fp => ?_) h.hs) fun D σ H q => comp_rdU h.hts q
  · exact ⟨fun pins s' σ H' Q I ⟨z, q⟩ => (h.ht s H c cl fp z).run pins s' σ H' Q I q⟩
  · exact ⟨fun pins s' σ H' Q I ⟨z, q⟩ => (h.he s H c cl fp z).run pins s' σ H' Q I q⟩
theorem c1_lcC (C : Cf X W sc N) (hk : sc.kind = .function) (i : Nat) {y : Str} {py spos : Pos} (hN : N[i]? = some y) (hy : lclB sc y = true) (h : CompU X W sc N tg iter elt ifs scope own ts g it t e) (hl : (py.line == pos.line) = true := by rfl) (hnn : (scope.names.any fun (n, k) => n == y && (k == .local || k == .cell)) = false := by decide +kernel) :
    C1 X W (.Assign [.Name y py] (.ListComp elt [⟨tg, iter, ifs, 0⟩] scope pos) spos) (bSetC i (nL (nComp (own.map (·.2)) g it t e))) := fun Γ =>
  ps_imp (set_lc C hk hN hy hl hnn h Γ) fun D σ H ⟨G, S, p⟩ => by
    have p : Pst X W G H σ (((nComp (own.map (·.2)) g it t e Γ).bind fun z => .val (.lst z.1, z.2)).bind fun z : Cl × List Sl => .val (Fw.nx, z.2.set i (.own z.1))) (fun z G' H' => FinU X.K G' H' D z.2 z.1) := p
    rw [R.bind_assoc] at p
    refine ⟨G, S, (Pst.bind p).imp fun z G1 H1 e1 p1 q vs S1 hq hd => ?_⟩
    obtain ⟨S2, e2⟩ := S1.putC i (newc_lst hq hd)
    exact p1 G1 _ e2 _ S2
theorem c1_lcD (C : Cf X W sc N) (hk : sc.kind = .function) (i : Nat) {y : Str} {py spos : Pos} (hN : N[i]? = some y) (hy : lclB sc y = true) (h : CompU X W sc N tg iter elt ifs scope own ts g it t e) (hl : (py.line == pos.line) = true := by rfl) (hnn : (scope.names.any fun (n, k) => n == y && (k == .local || k == .cell)) = false := by decide +kernel) :
    C1 X W (.Assign [.Name y py] (.ListComp elt [⟨tg, iter, ifs, 0⟩] scope pos) spos) (bSet i (dOfN (nComp (own.map (·.2)) g it t e))) := fun Γ =>
  ps_imp (set_lc C hk hN hy hl hnn h Γ) fun D σ H ⟨G, S, p⟩ => by
    have p : Pst X W G H σ (((nComp (own.map (·.2)) g it t e Γ).bind fun z => .val (.d true (.list z.1), z.2)).bind fun z : AV × List Sl => (R.ofO (asSl z.1)).bind fun s => .val (Fw.nx, z.2.set i s)) (fun z G' H' => FinU X.K G' H' D z.2 z.1) := p
    rw [R.bind_assoc] at p
    refine ⟨G, S, (Pst.bind p).imp fun z G1 H1 e1 p1 q vs S1 hq hd => ?_⟩
    obtain ⟨G2, S2, e2, d2⟩ := (newc_lst hq hd).frz S1 rfl
    exact p1 G2 _ e2 _ (S2.put i d2)
end
end PD


set_option Elab.async false
set_option linter.all false
set_option maxRecDepth 100000
set_option maxHeartbeats 4000000
set_option autoImplicit false
namespace PD
open PySem L2
/-! ## methods of a list in a slot -/
def cellL (Γ : List Sl) (i : Nat) : Option (Bool × List PyData) := match Γ[i]? with
  | some (.own (.lst ds)) => some (false, ds)
  | some (.io (.lst ds)) => some (true, ds)
  | _ => none
theorem cellL_ok {Γ : List Sl} {i : Nat} {z : Bool × List PyData} (h : cellL Γ i = some z) : Γ[i]? = some (mkS z.1 (.lst z.2)) := by
  unfold cellL at h
  split at h
  · cases h; exact ‹_›
  · cases h; exact ‹_›
  · cases h
section
variable {X : Cx} {W : WX} {sc : Scope} {N : List Str} {o e e2 : Expr} {es : List Expr} {apos cpos pos p : Pos} {k : DA} {f g : DF}
/-- the list in the slot i: what becomes of it, and the answer -/
def dLm (i : Nat) (q : List PyData → List AV → R (PyData × List PyData)) (k : DA) : DF := fun Γ => (R.ofO (cellL Γ i)).bind fun _ => (k Γ).bind fun z => (R.ofO (cellL z.2 i)).bind fun c => (q c.2 z.1).bind fun y => .val (.d true y.1, z.2.set i (mkS c.1 (.lst y.2)))
theorem evp_cell (C : Cf0 X W sc N) {Γ : List Sl} {i : Nat} {x : Str} {io : Bool} {c : Cl} (h : Γ[i]? = some (mkS io c)) (hN : N[i]? = some x) (hv : visB sc x = true) (hd : (x == ("__debug__" : Str)) = false := by decide +kernel) (hcd : (x == ("__classdict__" : Str)) = false := by decide +kernel) : EvP X W Γ (.Name x p) (.s i) := by
  cases io with
  | true => exact evp_slot C (.inr h) hN hv hd hcd
  | false => exact evp_slot C (.inl h) hN hv hd hcd
theorem ce_lm (C : Cf0 X W sc N) {name : Str} {id : String} {r : V → List V → Hp → VK → Prop} (q : List PyData → List AV → R (PyData × List PyData)) (slot : Slot "list" name id) (hty : typeOf (.builtin id) = pure (.type "method_descriptor")) (hm : MtR X id r)
    (hk : ∀ as ds G H σ p ws Q, H p = some (.lst ws) → DnA X.K (rg G true) H ws ds → (∀ vs, AVs X.K G H σ vs as → (∀ y, q ds as = .val y → ∃ ws' v, DnA X.K (rg G true) H ws' y.2 ∧ Dn X.K (rg G true) H v y.1 ∧ (Q v (upd H p (.lst ws')) → r (.ref p) vs H Q))))
    (i : Nat) {x : Str} (hN : N[i]? = some x) (hv : visB sc x = true) (ha : CA X W (e :: es) k) (hq : ∀ ds as z, q ds as ≠ .exc z)
    (hd : (x == ("__debug__" : Str)) = false := by decide +kernel) (hcd : (x == ("__classdict__" : Str)) = false := by decide +kernel)
    (hfew : ((backTo cpos (starEach (e :: es) X.env)).all (fun x => !x.1) && (backToKw cpos (keywordEach [] X.env)).all (fun x => x.1.isSome) && decide ((e :: es).length + ([] : List Keyword).length + (if ([] : List Keyword).isEmpty then 0 else 1) < 30)) = true := by rfl)
    (hline : (apos.endLine == cpos.line) = true := by rfl) (hs : starEach (e :: es) X.env = (false, eval e X.env) :: starEach es X.env := by rfl) (hplain : (backTo cpos (starEach es X.env)).any (·.1) = false := by rfl)
    (hbase : attributeBase (.Name x p) name X.env (eval (.Name x p) X.env) = eval (.Name x p) X.env := by rfl) :
    CE X W (.Call (.Attribute (.Name x p) name apos) (e :: es) [] cpos) (dLm i q k) := fun Γ => by
  unfold dLm
  cases h0 : cellL Γ i with
  | none => exact ev_bad
  | some c0 =>
    have ho := evp_cell (W := W) (p := p) C (cellL_ok h0) hN hv hd hcd
    refine pe_imp (pe_bm PySem.F.plainAttrs_list slot hty hm ho (ha Γ) hbase hfew hline hs hplain) fun σ H Q ⟨G, S, pp⟩ => ⟨G, S, fun G1 H1 e1 v S1 hx => ?_⟩
    obtain ⟨l, vs, g1, g2, g3, _⟩ := S1.chg i c0.1 (cellL_ok h0)
    have hx : σ[i]? = some (some v) := hx
    rw [g1] at hx
    cases hx
    have pp : Pst X W G H σ ((k Γ).bind fun z => (R.ofO (cellL z.2 i)).bind fun c => (q c.2 z.1).bind fun y => .val (AV.d true y.1, z.2.set i (mkS c.1 (.lst y.2)))) _ := pp
    refine ⟨.inl ⟨rfl, vs, SqL.of g2⟩, G1, S1, (Pst.bind (Pst.ext pp e1)).imp fun z G2 H2 e2 p2 ws S2 hw => ?_⟩
    obtain ⟨c, hc, p2⟩ := Pst.ofO p2
    obtain ⟨l', vs', k1, k2, k3, k4⟩ := S2.chg i c.1 (cellL_ok hc)
    rw [g1] at k1
    cases k1
    cases hy : q c.2 z.1 with
    | bad => rw [hy] at p2; exact p2.elim
    | exc z => exact absurd hy (hq _ _ _)
    | val y =>
      rw [hy] at p2
      obtain ⟨ws', v, m1, m2, m3⟩ := hk z.1 c.2 G2 H2 σ l vs' Q k2 k3 ws hw y hy
      obtain ⟨S3, e3⟩ := k4 ws' y.2 m1
      exact m3 (p2 G2 _ e3 v S3 (e3.dn m2))
theorem ce_lm0 (C : Cf0 X W sc N) {name : Str} {id : String} {r : V → List V → Hp → VK → Prop} (q : List PyData → List AV → R (PyData × List PyData)) (slot : Slot "list" name id) (hty : typeOf (.builtin id) = pure (.type "method_descriptor")) (hm : MtR X id r)
    (hk : ∀ ds G H p ws Q, H p = some (.lst ws) → DnA X.K (rg G true) H ws ds → (∀ y, q ds [] = .val y → ∃ ws' v, DnA X.K (rg G true) H ws' y.2 ∧ Dn X.K (rg G true) H v y.1 ∧ (Q v (upd H p (.lst ws')) → r (.ref p) [] H Q)))
    (i : Nat) {x : Str} (hN : N[i]? = some x) (hv : visB sc x = true) (hq : ∀ ds as z, q ds as ≠ .exc z)
    (hd : (x == ("__debug__" : Str)) = false := by decide +kernel) (hcd : (x == ("__classdict__" : Str)) = false := by decide +kernel)
    (hline : (apos.endLine == cpos.line) = true := by rfl) (hbase : attributeBase (.Name x p) name X.env (eval (.Name x p) X.env) = eval (.Name x p) X.env := by rfl) :
    CE X W (.Call (.Attribute (.Name x p) name apos) [] [] cpos) (dLm i q dA0) := fun Γ => by
  unfold dLm
  cases h0 : cellL Γ i with
  | none => exact ev_bad
  | some c0 =>
    have ho := evp_cell (W := W) (p := p) C (cellL_ok h0) hN hv hd hcd
    refine pe_imp (pe_bm0 PySem.F.plainAttrs_list slot hty hm ho hbase hline) fun σ H Q ⟨G, S, pp⟩ => ⟨G, S, fun G1 H1 e1 v S1 hx => ?_⟩
    obtain ⟨l, vs, g1, g2, g3, k4⟩ := S1.chg i c0.1 (cellL_ok h0)
    have hx : σ[i]? = some (some v) := hx
    rw [g1] at hx
    cases hx
    refine ⟨.inl ⟨rfl, vs, SqL.of g2⟩, ?_⟩
    have pp : Pst X W G H σ ((R.ofO (cellL Γ i)).bind fun c => (q c.2 []).bind fun y => .val (AV.d true y.1, Γ.set i (mkS c.1 (.lst y.2)))) _ := pp
    obtain ⟨c, hc, p2⟩ := Pst.ofO (Pst.ext pp e1)
    rw [h0] at hc
    cases hc
    cases hy : q c0.2 [] with
    | bad => rw [hy] at p2; exact p2.elim
    | exc z => exact absurd hy (hq _ _ _)
    | val y =>
      rw [hy] at p2
      obtain ⟨ws', v, m1, m2, m3⟩ := hk c0.2 G1 H1 l vs Q g2 g3 y hy
      obtain ⟨S3, e3⟩ := k4 ws' y.2 m1
      exact m3 (p2 G1 _ e3 v S3 (e3.dn m2))
/-! the methods -/
def qAppend (ds : List PyData) : List AV → R (PyData × List PyData)
  | [.d true y] => gq (ltS ds) (.none, ds ++ [y])
  | _ => .bad
theorem gq_val {α : Type} {c : Bool} {a b : α} (h : gq c a = .val b) : c = true ∧ b = a := by
  cases c with
  | false => cases h
  | true => cases h; exact ⟨rfl, rfl⟩
theorem gq_nox {α : Type} {c : Bool} {a : α} {z : Exn} : gq c a ≠ .exc z := by cases c <;> intro h <;> cases h
theorem ce_append (C : Cf0 X W sc N) (i : Nat) {x : Str} (hN : N[i]? = some x) (hv : visB sc x = true) (ha : CE X W e f) (hs : starEach [e] X.env = (false, eval e X.env) :: starEach [] X.env := by rfl) (hd : (x == ("__debug__" : Str)) = false := by decide +kernel) (hcd : (x == ("__classdict__" : Str)) = false := by decide +kernel) (hline : (apos.endLine == cpos.line) = true := by rfl)
    (hbase : attributeBase (.Name x p) "append" X.env (eval (.Name x p) X.env) = eval (.Name x p) X.env := by rfl) : CE X W (.Call (.Attribute (.Name x p) "append" apos) [e] [] cpos) (dLm i qAppend (dAc (dFrz f) dA0)) := by
  refine ce_lm C qAppend PySem.F.slot_list_append PySem.F.type_list_append mt_append (fun as ds G H σ p ws Q hp hd vs av y hy => ?_) i hN hv (ca_cons (ce_frz ha) ca_nil hs) (fun ds as z h => ?_) hd hcd (by rw [hs]; rfl) hline hs rfl hbase
  · unfold qAppend at hy
    split at hy
    · rename_i z
      obtain ⟨hc, rfl⟩ := gq_val hy
      obtain ⟨v, rfl, hv⟩ := avs_one av
      have hv : Dn X.K (rg G true) H v z := hv
      exact ⟨ws ++ [v], .non, hd.append (.cons hv .nil), .non, fun q => ⟨p, ws, v, rfl, rfl, hp, by rw [hd.length]; exact of_decide_eq_true hc, q⟩⟩
    · cases hy
  · unfold qAppend at h
    split at h
    · exact gq_nox h
    · cases h
def insI {β : Type} (xs : List β) (n : Int) (y : β) : List β := xs.take n.toNat ++ [y] ++ xs.drop n.toNat
def cIns {β : Type} (xs : List β) (n : Int) : Bool := decide (xs.length < sizeLine) && decide (0 ≤ n ∧ n < 2 ^ 63)
def qInsert (ds : List PyData) : List AV → R (PyData × List PyData)
  | [.d _ (.int n), .d true y] => gq (cIns ds n) (.none, insI ds n y)
  | _ => .bad
def qPop (ds : List PyData) (_ : List AV) : R (PyData × List PyData) := (R.ofO ds.getLast?).bind fun y => .val (y, ds.dropLast)
theorem ce_pop (C : Cf0 X W sc N) (i : Nat) {x : Str} (hN : N[i]? = some x) (hv : visB sc x = true) (hd : (x == ("__debug__" : Str)) = false := by decide +kernel) (hcd : (x == ("__classdict__" : Str)) = false := by decide +kernel) (hline : (apos.endLine == cpos.line) = true := by rfl)
    (hbase : attributeBase (.Name x p) "pop" X.env (eval (.Name x p) X.env) = eval (.Name x p) X.env := by rfl) : CE X W (.Call (.Attribute (.Name x p) "pop" apos) [] [] cpos) (dLm i qPop dA0) := by
  refine ce_lm0 C qPop PySem.F.slot_list_pop PySem.F.type_list_pop mt_pop (fun ds G H p ws Q hp hd y hy => ?_) i hN hv (fun ds as z h => ?_) hd hcd hline hbase
  · unfold qPop at hy
    cases hl : ds.getLast? with
    | none => rw [hl] at hy; cases hy
    | some d =>
      rw [hl] at hy
      cases hy
      have hl2 : ds[ds.length - 1]? = some d := by rw [← List.getLast?_eq_getElem?]; exact hl
      obtain ⟨v, h1, h2⟩ := hd.get' hl2
      refine ⟨ws.dropLast, v, ?_, h2, fun q => ⟨p, ws, v, rfl, rfl, hp, by rw [hd.length]; exact h1, q⟩⟩
      rw [List.dropLast_eq_take, List.dropLast_eq_take, hd.length]
      exact hd.take _
  · unfold qPop at h
    cases hl : ds.getLast? <;> rw [hl] at h <;> cases h
def qPopAt (ds : List PyData) : List AV → R (PyData × List PyData)
  | [.d _ (.int n)] => (R.req (decide (-(2 ^ 63) ≤ n ∧ n < 2 ^ 63))).bind fun _ => (R.ofO (ixN ds.length n)).bind fun j => (R.ofO ds[j]?).bind fun y => .val (y, ds.eraseIdx j)
  | _ => .bad
end
end PD


set_option Elab.async false
set_option linter.all false
set_option maxRecDepth 100000
set_option maxHeartbeats 4000000
set_option autoImplicit false
namespace PD
open PySem L2
/-- a cell of one object changes -/
theorem Sta.chg1 {K : PySem.W.Frag} {G : Gh} {H : Hp} {σ : St} {Γ : List Sl} {c : Cl} (s : Sta K G H σ Γ) (i : Nat) (io : Bool) (hi : Γ[i]? = some (mkS io c)) :
    ∃ v fp, σ[i]? = some (some v) ∧ c.ok K (rg G true) H v fp ∧ ∀ p o o' c', fp = [p] → H p = some o → (∀ xs, o ≠ .tup xs) → (∀ x y, o ≠ .frz x y) → c'.ok K (rg G true) (upd H p o') v [p] → Sta K G (upd H p o') σ (Γ.set i (mkS io c')) ∧ Ext G H G (upd H p o') := by
  obtain ⟨A, S⟩ := s
  have key : ∃ v, σ[i]? = some (some v) ∧ c.ok K (RgN G) H v (A i) ∧ ∀ (H' : Hp) (c' : Cl) (fp' : List Addr), c'.ok K (RgN G) H' v fp' → (∀ p ∈ fp', p ∈ A i) → SlOk K G H' i σ[i]? fp' (mkS io c') := by
    cases io with
    | true =>
      obtain ⟨v, h1, h2, h3⟩ := S.sl i _ hi
      exact ⟨v, h1, h3, fun H' c' fp' k _ => ⟨v, h1, h2, k⟩⟩
    | false =>
      obtain ⟨v, h1, h2, h3⟩ := S.sl i _ hi
      exact ⟨v, h1, h3, fun H' c' fp' k q => ⟨v, h1, fun p hp => h2 p (q p hp), k⟩⟩
  obtain ⟨v, h1, hc, mk⟩ := key
  refine ⟨v, A i, h1, hc, fun p o o' c' hfp hp ht hz hc' => ?_⟩
  have hpA : p ∈ A i := by rw [hfp]; simp
  have hN : G.N p = none := (S.al i p hpA).2.1
  have g : Grow G H G.N (upd H p o') [p] := grow_mut S.w hp hN ht hz
  refine S.step (i := i) (fp' := [p]) (s' := mkS io c') (σ' := σ) g (fun q hq => ?_) (fun j hj => rfl) rfl (fun hlt => mk _ c' [p] hc' fun q hq => ?_) (fun q hq => ?_)
  · have : q = p := by simpa using hq
    rw [this]; exact hpA
  · have : q = p := by simpa using hq
    rw [this]; exact hpA
  · have : q = p := by simpa using hq
    rw [this]
    exact ⟨by rw [upd_same]; simp, hN, .inl hpA⟩
section
variable {X : Cx} {W : WX} {sc : Scope} {N : List Str} {a b e e2 o : Expr} {es : List Expr} {apos cpos pos p : Pos} {k : DA} {f g : DF} {s : Stmt}
theorem u1 (C : Cf0 X W sc N) : X.A.units + 1 < cLine := by have := C.hu2; omega
theorem u65 (C : Cf0 X W sc N) : X.A.units + 65 < cLine := by have := C.hu2; omega
/-- never -/
def bBad : DS := fun _ => .bad
theorem c1_bad : C1 X W s bBad := fun Γ => ⟨fun pins s σ H D I ⟨G, S, p⟩ => p.elim⟩
theorem ce_globI (C : Cf0 X W sc N) {x : Str} {v : Int} (h : ∃ t, X.mg x = some (.int v t)) (hg : glB sc x = true) (hdb : (x == ("__debug__" : Str)) = false := by decide +kernel) : CE X W (.Name x pos) (dC (.int v)) := by
  obtain ⟨t, h⟩ := h
  exact ce_glob C hg h (v := .int v) ⟨t, rfl⟩ (fun _ _ => .int v) hdb
/-! ## more of lists -/
theorem ce_insert (C : Cf0 X W sc N) (i : Nat) {x : Str} (hN : N[i]? = some x) (hv : visB sc x = true) (ha : CE X W e f) (hb : CE X W e2 g) (hs : starEach [e, e2] X.env = (false, eval e X.env) :: starEach [e2] X.env := by rfl) (hs2 : starEach [e2] X.env = (false, eval e2 X.env) :: starEach [] X.env := by rfl) (hd : (x == ("__debug__" : Str)) = false := by decide +kernel) (hcd : (x == ("__classdict__" : Str)) = false := by decide +kernel) (hline : (apos.endLine == cpos.line) = true := by rfl)
    (hbase : attributeBase (.Name x p) "insert" X.env (eval (.Name x p) X.env) = eval (.Name x p) X.env := by rfl) : CE X W (.Call (.Attribute (.Name x p) "insert" apos) [e, e2] [] cpos) (dLm i qInsert (dAc f (dAc (dFrz g) dA0))) := by
  refine ce_lm C qInsert PySem.F.slot_list_insert PySem.F.type_list_insert mt_insert (fun as ds G H σ p ws Q hp hd vs av y hy => ?_) i hN hv (ca_cons ha (ca_cons (ce_frz hb) ca_nil hs2) hs) (fun ds as z h => ?_) hd hcd (by rw [hs, hs2]; rfl) hline hs (by rw [hs2]; rfl) hbase
  · unfold qInsert at hy
    split at hy
    · rename_i n z
      obtain ⟨hc, rfl⟩ := gq_val hy
      obtain ⟨u, v, rfl, hu, hv⟩ := avs_two av
      have hv : Dn X.K (rg G true) H v z := hv
      unfold cIns at hc
      rw [Bool.and_eq_true] at hc
      have c2 : 0 ≤ n ∧ n < 2 ^ 63 := of_decide_eq_true hc.2
      exact ⟨_, .non, ((hd.take n.toNat).append (.cons hv .nil)).append (hd.drop n.toNat), .non, fun q => ⟨p, ws, n, v, rfl, by rw [dn_int hu], hp, by rw [hd.length]; exact of_decide_eq_true hc.1, c2.1, c2.2, q⟩⟩
    · cases hy
  · unfold qInsert at h
    split at h
    · exact gq_nox h
    · cases h
theorem ce_popAt (C : Cf0 X W sc N) (i : Nat) {x : Str} (hN : N[i]? = some x) (hv : visB sc x = true) (ha : CE X W e f) (hs : starEach [e] X.env = (false, eval e X.env) :: starEach [] X.env := by rfl) (hd : (x == ("__debug__" : Str)) = false := by decide +kernel) (hcd : (x == ("__classdict__" : Str)) = false := by decide +kernel) (hline : (apos.endLine == cpos.line) = true := by rfl)
    (hbase : attributeBase (.Name x p) "pop" X.env (eval (.Name x p) X.env) = eval (.Name x p) X.env := by rfl) : CE X W (.Call (.Attribute (.Name x p) "pop" apos) [e] [] cpos) (dLm i qPopAt (dAc f dA0)) := by
  refine ce_lm C qPopAt PySem.F.slot_list_pop PySem.F.type_list_pop mt_popAt (fun as ds G H σ p ws Q hp hd vs av y hy => ?_) i hN hv (ca_cons ha ca_nil hs) (fun ds as z h => ?_) hd hcd (by rw [hs]; rfl) hline hs rfl hbase
  · unfold qPopAt at hy
    split at hy
    · rename_i n
      obtain ⟨v, rfl, hv⟩ := avs_one av
      cases hc : decide (-(2 ^ 63) ≤ n ∧ n < 2 ^ 63) with
      | false => rw [hc] at hy; cases hy
      | true =>
        rw [hc] at hy
        have hc := of_decide_eq_true hc
        cases hx : ixN ds.length n with
        | none => rw [hx] at hy; cases hy
        | some j =>
          rw [hx] at hy
          cases hj : ds[j]? with
          | none =>
            have hy : ((R.ofO ds[j]?).bind fun y => R.val (y, ds.eraseIdx j)) = .val y := hy
            rw [hj] at hy
            cases hy
          | some d =>
            have hy : ((R.ofO ds[j]?).bind fun y => R.val (y, ds.eraseIdx j)) = .val y := hy
            rw [hj] at hy
            cases hy
            obtain ⟨w, w1, w2⟩ := hd.get' hj
            have er : ∀ {us : List V} {es : List PyData} (j : Nat), DnA X.K (rg G true) H us es → DnA X.K (rg G true) H (us.eraseIdx j) (es.eraseIdx j) := fun j h => by
              rw [List.eraseIdx_eq_take_drop_succ, List.eraseIdx_eq_take_drop_succ]
              exact (h.take _).append (h.drop _)
            exact ⟨ws.eraseIdx j, w, er j hd, w2, fun q => ⟨p, ws, n, j, w, rfl, by rw [dn_int hv], hp, hc.1, hc.2, by rw [hd.length]; exact (ixN_seq hx).1, w1, q⟩⟩
    · cases hy
  · unfold qPopAt at h
    split at h
    · rename_i n
      cases hc : decide (-(2 ^ 63) ≤ n ∧ n < 2 ^ 63) with
      | false => rw [hc] at h; cases h
      | true =>
        rw [hc] at h
        cases hx : ixN ds.length n with
        | none => rw [hx] at h; cases h
        | some j =>
          rw [hx] at h
          have h : ((R.ofO ds[j]?).bind fun y => R.val (y, ds.eraseIdx j)) = .exc z := h
          cases hj : ds[j]? <;> rw [hj] at h <;> cases h
    · cases h
def qReverse (ds : List PyData) (_ : List AV) : R (PyData × List PyData) := .val (.none, ds.reverse)
theorem ce_reverse (C : Cf0 X W sc N) (i : Nat) {x : Str} (hN : N[i]? = some x) (hv : visB sc x = true) (hd : (x == ("__debug__" : Str)) = false := by decide +kernel) (hcd : (x == ("__classdict__" : Str)) = false := by decide +kernel) (hline : (apos.endLine == cpos.line) = true := by rfl)
    (hbase : attributeBase (.Name x p) "reverse" X.env (eval (.Name x p) X.env) = eval (.Name x p) X.env := by rfl) : CE X W (.Call (.Attribute (.Name x p) "reverse" apos) [] [] cpos) (dLm i qReverse dA0) :=
  ce_lm0 C qReverse PySem.F.slot_list_reverse PySem.F.type_list_reverse mt_reverse (fun ds G H p ws Q hp hd y hy => by
    cases hy
    exact ⟨ws.reverse, .non, hd.reverse, .non, fun q => ⟨p, ws, rfl, rfl, hp, q⟩⟩) i hN hv (fun ds as z h => by cases h) hd hcd hline hbase
def qClear (ds : List PyData) (_ : List AV) : R (PyData × List PyData) := .val (.none, [])
theorem ce_clear (C : Cf0 X W sc N) (i : Nat) {x : Str} (hN : N[i]? = some x) (hv : visB sc x = true) (hd : (x == ("__debug__" : Str)) = false := by decide +kernel) (hcd : (x == ("__classdict__" : Str)) = false := by decide +kernel) (hline : (apos.endLine == cpos.line) = true := by rfl)
    (hbase : attributeBase (.Name x p) "clear" X.env (eval (.Name x p) X.env) = eval (.Name x p) X.env := by rfl) : CE X W (.Call (.Attribute (.Name x p) "clear" apos) [] [] cpos) (dLm i qClear dA0) :=
  ce_lm0 C qClear PySem.F.slot_list_clear PySem.F.type_list_clear mt_clear (fun ds G H p ws Q hp hd y hy => by
    cases hy
    exact ⟨[], .non, .nil, .non, fun q => ⟨p, ws, rfl, rfl, hp, q⟩⟩) i hN hv (fun ds as z h => by cases h) hd hcd hline hbase
/-- xs.extend(a new list) -/
def dExt (i : Nat) (n : DN) : DF := fun Γ => (R.ofO (cellL Γ i)).bind fun _ => (n Γ).bind fun z => (R.ofO (cellL z.2 i)).bind fun c => (R.req (szB (c.2 ++ z.1))).bind fun _ => .val (.d true .none, z.2.set i (mkS c.1 (.lst (c.2 ++ z.1))))
theorem ce_extend (C : Cf0 X W sc N) (i : Nat) {x : Str} {n : DN} (hN : N[i]? = some x) (hv : visB sc x = true) (ha : CN X W e n) (hs : starEach [e] X.env = (false, eval e X.env) :: starEach [] X.env := by rfl) (hd : (x == ("__debug__" : Str)) = false := by decide +kernel) (hcd : (x == ("__classdict__" : Str)) = false := by decide +kernel) (hline : (apos.endLine == cpos.line) = true := by rfl)
    (hbase : attributeBase (.Name x p) "extend" X.env (eval (.Name x p) X.env) = eval (.Name x p) X.env := by rfl) : CE X W (.Call (.Attribute (.Name x p) "extend" apos) [e] [] cpos) (dExt i n) := fun Γ => by
  unfold dExt
  cases h0 : cellL Γ i with
  | none => exact ev_bad
  | some c0 =>
    have ho := evp_cell (W := W) (p := p) C (cellL_ok h0) hN hv hd hcd
    refine pe_imp (pe_bm PySem.F.plainAttrs_list PySem.F.slot_list_extend PySem.F.type_list_extend mt_extend ho (pa_cons (ha Γ) pa_nil hs) hbase (by rw [hs]; rfl) hline hs rfl) fun σ H Q ⟨G, S, pp⟩ => ⟨G, S, fun G1 H1 e1 v S1 hx => ?_⟩
    obtain ⟨l, vs, g1, g2, g3, _⟩ := S1.chg i c0.1 (cellL_ok h0)
    have hx : σ[i]? = some (some v) := hx
    rw [g1] at hx
    cases hx
    have pp : Pst X W G H σ ((n Γ).bind fun z => (R.ofO (cellL z.2 i)).bind fun c => (R.req (szB (c.2 ++ z.1))).bind fun _ => .val (AV.d true .none, z.2.set i (mkS c.1 (.lst (c.2 ++ z.1))))) _ := pp
    refine ⟨.inl ⟨rfl, vs, SqL.of g2⟩, G1, S1, (Pst.bind (Pst.ext pp e1)).imp fun z G2 H2 e2 p2 q ws S2 hq hw => ?_⟩
    obtain ⟨c, hc, p2⟩ := Pst.ofO p2
    obtain ⟨hsz, p2⟩ := Pst.req p2
    obtain ⟨S3, e3⟩ := S2.grow (grow_own (o := .lst ws) S2.w hq)
    obtain ⟨l', vs', k1, k2, k3, k4⟩ := S3.chg i c.1 (cellL_ok hc)
    rw [g1] at k1
    cases k1
    obtain ⟨S4, e4⟩ := k4 (vs' ++ ws) (c.2 ++ z.1) (k3.append (e3.dna hw))
    refine ⟨l, q, vs', ws, rfl, rfl, k2, upd_same, ?_, p2 _ _ (e3.tr e4) .non S4 .non⟩
    have := of_decide_eq_true hsz
    rw [k3.length, hw.length]
    simpa using this
/-! ## x[i] = v -/
def rSetD : V → V → V → Hp → (Hp → Prop) → Prop := fun o i v H Q => ∃ a H', o = .ref a ∧ DPut H a i v H' ∧ Q H'
theorem set_dict (hu : X.A.units + 1 < cLine) : PSet X rSetD := by
  intro pins s σ H o i v ov iv u Q I ro ri rv h
  obtain ⟨a, H', rfl, g, q⟩ := h
  cases ro
  exact d_setItem hu I g ri rv fun s' I' => ⟨H', I', q⟩
theorem set_or {t1 t2 : V → V → V → Hp → (Hp → Prop) → Prop} (h1 : PSet X t1) (h2 : PSet X t2) : PSet X (fun o i v H Q => t1 o i v H Q ∨ t2 o i v H Q) := fun pins s σ H o i v ov iv u Q I ro ri rv h => h.elim (h1 pins s σ H o i v ov iv u Q I ro ri rv) (h2 pins s σ H o i v ov iv u Q I ro ri rv)
/-- keys -/
def dKey : PyData → Option Key
  | .int i => some (.inl i)
  | .str x => some (.inr x)
  | _ => none
def dKeys : List PyData → Option (List Key)
  | [] => some []
  | d :: ds => (dKey d).bind fun k => (dKeys ds).map (k :: ·)
theorem dKey_eq {d : PyData} {k : Key} (h : dKey d = some k) : d = keyD k := by
  cases d <;> simp only [dKey] at h <;> cases h <;> rfl
theorem dKey_ok {K : PySem.W.Frag} {G : Rg} {H : Hp} {v : V} {d : PyData} {k : Key} (h : dKey d = some k) (hv : Dn K G H v d) : v = kV k := by
  cases d <;> simp only [dKey] at h <;> cases h
  · exact dn_int hv
  · exact dn_str hv
theorem dKeys_ok {K : PySem.W.Frag} {G : Rg} {H : Hp} : ∀ {ds : List PyData} {ks : List Key} {vs : List V}, dKeys ds = some ks → DnA K G H vs ds → vs = ks.map kV
  | [], _, _, h, .nil => by cases h; rfl
  | d :: ds, ks, _, h, .cons q r => by
    unfold dKeys at h
    cases e : dKey d with
    | none => rw [e] at h; cases h
    | some k =>
      rw [e] at h
      have h : (dKeys ds).map (k :: ·) = some ks := h
      cases e2 : dKeys ds with
      | none => rw [e2] at h; cases h
      | some js =>
        rw [e2] at h
        cases h
        rw [dKey_ok e q, dKeys_ok e2 r]
        rfl
theorem dKeys_eq : ∀ {ds : List PyData} {ks : List Key}, dKeys ds = some ks → ds = ks.map keyD
  | [], _, h => by cases h; rfl
  | d :: ds, ks, h => by
    unfold dKeys at h
    cases e : dKey d with
    | none => rw [e] at h; cases h
    | some k =>
      rw [e] at h
      have h : (dKeys ds).map (k :: ·) = some ks := h
      cases e2 : dKeys ds with
      | none => rw [e2] at h; cases h
      | some js => rw [e2] at h; cases h; rw [dKey_eq e, dKeys_eq e2]; rfl
end
end PD


set_option Elab.async false
set_option linter.all false
set_option maxRecDepth 100000
set_option maxHeartbeats 4000000
set_option autoImplicit false
namespace PD
open PySem L2
theorem DnA.fresh {K : PySem.W.Frag} {G : Gh} {H : Hp} {fr : Bool} {vs : List V} {ds : List PyData} (h : DnA K (rg G fr) H vs ds) (hf : (fr || flat.flatA ds) = true) : DnA K (rg G true) H vs ds := by
  cases fr with
  | true => exact h
  | false => exact h.free (by simpa using hf)
section
variable {X : Cx} {W : WX} {sc : Scope} {N : List Str} {a b c e e2 o : Expr} {es : List Expr} {apos cpos pos p p2 : Pos} {k : DA} {f g : DF} {s : Stmt}
/-! ## list + list -/
def rCatL (K : PySem.W.Frag) : R2 := fun x y H Q => ∃ l b xs zs, x = .ref l ∧ y = .ref b ∧ SqL K H l xs ∧ SqL K H b zs ∧ xs.length + zs.length ≤ sizeLine ∧ ∀ p, H p = none → Q (.ref p) (upd H p (.lst (xs ++ zs)))
theorem op_catL : OpR X (binaryOp .Add) (rCatL X.K) := by
  intro pins s σ H x y v u Q I rx ry h
  obtain ⟨l, b, xs, zs, rfl, rfl, hH, hB, hz, q⟩ := h
  cases rx
  cases ry
  obtain ⟨its, r, ⟨⟨cls, dd, data, sl⟩, n, e, hc, hd, hs⟩, z⟩ := I.list hH
  obtain ⟨its2, r2, ⟨⟨cls2, dd2, data2, sl2⟩, n2, e2, hc2, hd2, hs2⟩, z2⟩ := I.list hB
  have hc : cls = .type "list" := hc
  have hs : data = .seq its.toArray n := hs
  have hc2 : cls2 = .type "list" := hc2
  have hs2 : data2 = .seq its2.toArray n2 := hs2
  subst hc hs hc2 hs2
  have hl := r.length
  have hl2 := r2.length
  have ea : its.toArray ++ its2.toArray = (its ++ its2).toArray := by simp
  refine PySem.concat_meets ⟨_, e, rfl⟩ ⟨_, e2, rfl⟩ PySem.noFill_list_add PySem.seq_list_add PySem.F.slot_list_add PySem.F.entry_list_add (PySem.F.args_list_add_2 _ _) (PyProof.Rows.list_addW l b its.toArray its2.toArray n n2 dd dd2 sl sl2 (by rw [List.size_toArray, List.size_toArray]; omega)) ⟨e, e2, ?_⟩
  rw [ea]
  exact ⟨.ref _, _, I.lnew (t' := s.toks) (r.append r2) (by rw [List.length_append]; omega), rfl, q _ I.fresh⟩
/-- a value read as a list whose items may be kept in a new one -/
def lsA (Γ : List Sl) : AV → Option (List PyData)
  | .d fr (.list ds) => if fr || flat.flatA ds then some ds else none
  | .s j => match rdD Γ (.s j) with
    | some (.list ds) => some ds
    | _ => none
  | _ => none
theorem lsA_ok {Γ : List Sl} {x : AV} {ds : List PyData} {G : Gh} {H : Hp} {σ : St} {v : V} (h : lsA Γ x = some ds) (S : Sta X.K G H σ Γ) (hv : AVok X.K G H σ v x) : ∃ l xs, v = .ref l ∧ SqL X.K H l xs ∧ DnA X.K (rg G true) H xs ds := by
  unfold lsA at h
  split at h
  · rename_i fr ds'
    by_cases hc : (fr || flat.flatA ds') = true
    · rw [if_pos hc] at h
      cases h
      obtain ⟨l, xs, rfl, g1, g2⟩ := dn_list hv
      exact ⟨l, xs, rfl, (g1.mono (S.w.rgl _)).sq, g2.fresh hc⟩
    · rw [if_neg hc] at h; cases h
  · rename_i j
    split at h
    · cases h
      obtain ⟨l, xs, rfl, g1, g2⟩ := S.slotL ‹_› hv
      exact ⟨l, xs, rfl, SqL.of g1, g2⟩
    · cases h
  · cases h
theorem AVok.ext' {G G' : Gh} {H H' : Hp} {σ : St} {v : V} {x : AV} (h : AVok X.K G H σ v x) (e : Ext G H G' H') : AVok X.K G' H' σ v x := h.ext e
def dCat (f g : DF) : DN := fun Γ => (f Γ).bind fun x => (g x.2).bind fun y => (R.ofO (lsA y.2 x.1)).bind fun ds => (R.ofO (lsA y.2 y.1)).bind fun es => gq (szB (ds ++ es)) (ds ++ es, y.2)
theorem cn_cat (ha : CE X W a f) (hb : CE X W b g) : CN X W (.BinOp a .Add b pos) (dCat f g) := fun Γ =>
  pe_imp (pe_op op_catL (ha Γ) (pe_any fun x : AV × List Sl => hb x.2)) fun σ H Q ⟨G, S, q⟩ => ⟨G, S, (Pst.bind q).imp fun x G1 H1 e1 q1 v S1 hv => ⟨x, G1, S1, (Pst.bind q1).imp fun y G2 H2 e2 q2 u S2 hu => by
    obtain ⟨ds, h1, q2⟩ := Pst.ofO q2
    obtain ⟨es, h2, q2⟩ := Pst.ofO q2
    obtain ⟨hc, q3⟩ := Pst.gq S2.w q2
    obtain ⟨l, xs, rfl, g1, g2⟩ := lsA_ok h1 S2 (hv.ext e2)
    obtain ⟨l2, ys, rfl, g3, g4⟩ := lsA_ok h2 S2 hu
    refine ⟨l, l2, xs, ys, rfl, rfl, g1, g3, ?_, fun p hp => q3 p _ S2 hp (g2.append g4)⟩
    have := of_decide_eq_true hc
    rw [g2.length, g4.length]
    simpa using this⟩⟩
/-! ## slices -/
def cutD {α : Type} (ds : List α) (lo hi : Option Int) : List α := (ds.drop (HT.sIx ds.length 0 lo)).take (HT.sIx ds.length ds.length hi - HT.sIx ds.length 0 lo)
theorem DnA.cut {K : PySem.W.Frag} {G : Rg} {H : Hp} {vs : List V} {ds : List PyData} (h : DnA K G H vs ds) (lo hi : Option Int) : DnA K G H (cutV vs lo hi) (cutD ds lo hi) := by
  unfold cutV cutD
  rw [h.length]
  exact (h.drop _).take _
/-- a bound of a slice -/
abbrev DO := List Sl → R (Option Int × List Sl)
def rdO (X : Cx) (W : WX) (Γ : List Sl) (m : R (Option Int × List Sl)) : TO := fun σ H Q => ∃ G, Sta X.K G H σ Γ ∧ Pst X W G H σ m fun r G' H' => Sta X.K G' H' σ r.2 → Q r.1 H'
def CO (X : Cx) (W : WX) (e : Option Expr) (f : DO) : Prop := ∀ Γ, PO X e (rdO X W Γ (f Γ))
theorem po_imp {e : Option Expr} {t t' : TO} (h : PO X e t) (k : ∀ σ H Q, t' σ H Q → t σ H Q) : PO X e t' := ⟨fun pins s σ H Q I q => h.run pins s σ H Q I (k σ H Q q)⟩
theorem po_any {e : Option Expr} {α : Type} {t : α → TO} (h : ∀ x, PO X e (t x)) : PO X e (fun σ H Q => ∃ x, t x σ H Q) := ⟨fun pins s σ H Q I ⟨x, q⟩ => (h x).run pins s σ H Q I q⟩
def oNone : DO := fun Γ => .val (none, Γ)
theorem co_none : CO X W none oNone := fun Γ => po_imp po_none fun σ H Q ⟨G, S, q⟩ => q G H (Ext.rf S.w) S
def oSome (f : DF) : DO := fun Γ => (f Γ).bind fun z => (R.ofO (intA z.1)).bind fun i => .val (some i, z.2)
theorem co_some (ha : CE X W e f) : CO X W (some e) (oSome f) := fun Γ => po_imp (po_some (ha Γ)) fun σ H Q ⟨G, S, q⟩ => ⟨G, S, (Pst.bind q).imp fun x G1 H1 e1 q1 v S1 hv => by
  obtain ⟨i, hi, q1⟩ := Pst.ofO q1
  exact ⟨i, intA_ok hi hv, q1 G1 H1 (Ext.rf S1.w) S1⟩⟩
/-- xs[lo:hi]: a new list -/
def dCutN (f : DF) (lo hi : DO) : DN := fun Γ => (f Γ).bind fun x => (lo x.2).bind fun l => (hi l.2).bind fun h => (R.ofO (lsA h.2 x.1)).bind fun ds => .val (cutD ds l.1 h.1, h.2)
theorem cn_cut {lo hi : Option Expr} {fl fh : DO} (ha : CE X W a f) (hl : CO X W lo fl) (hh : CO X W hi fh) : CN X W (.Subscript a (.Slice lo hi none p2) pos) (dCutN f fl fh) := fun Γ =>
  pe_imp (pe_slice sl_list (ha Γ) (po_any fun x : AV × List Sl => hl x.2) (po_any fun x : Option Int × List Sl => hh x.2)) fun σ H Q ⟨G, S, q⟩ => ⟨G, S, (Pst.bind q).imp fun x G1 H1 e1 q1 v S1 hv => ⟨x, G1, S1, (Pst.bind q1).imp fun l G2 H2 e2 q2 S2 => ⟨l, G2, S2, (Pst.bind q2).imp fun h G3 H3 e3 q3 S3 => by
    obtain ⟨ds, h1, q3⟩ := Pst.ofO q3
    obtain ⟨p, xs, rfl, g1, g2⟩ := lsA_ok h1 S3 (hv.ext (e2.tr e3))
    exact ⟨p, xs, rfl, g1, fun r hr => q3 G3 H3 (Ext.rf S3.w) r _ S3 hr (g2.cut _ _)⟩⟩⟩⟩
/-- t[lo:hi] of a tuple -/
def dCutT (f : DF) (lo hi : DO) : DF := fun Γ => (f Γ).bind fun x => (lo x.2).bind fun l => (hi l.2).bind fun h => match x.1 with
  | .d fr (.tuple ds) => .val (.d fr (.tuple (cutD ds l.1 h.1)), h.2)
  | _ => .bad
theorem cut_whole {α : Type} (xs : List α) {lo hi : Option Int} (h : HT.sIx xs.length 0 lo = 0 ∧ HT.sIx xs.length xs.length hi = xs.length) : cutD xs lo hi = xs := by
  unfold cutD
  rw [h.1, h.2, List.drop_zero, Nat.sub_zero, List.take_length]
end
end PD


set_option Elab.async false
set_option linter.all false
set_option maxRecDepth 100000
set_option maxHeartbeats 4000000
set_option autoImplicit false
namespace PD
open PySem L2
/-! ## dicts as data -/
mutual
def eqK : PyData → PyData → Bool
  | .int i, .int j => decide (i = j)
  | .str x, .str y => decide (x = y)
  | .tuple xs, .tuple ys => eqKs xs ys
  | _, _ => false
def eqKs : List PyData → List PyData → Bool
  | [], [] => true
  | x :: xs, y :: ys => eqK x y && eqKs xs ys
  | _, _ => false
end
theorem eqK_keyD (k k' : Key) : eqK (keyD k) (keyD k') = decide (k = k') := by
  cases k <;> cases k' <;> simp [keyD, eqK]
theorem eqKs_keyD : ∀ (k k' : List Key), eqKs (k.map keyD) (k'.map keyD) = decide (k = k')
  | [], [] => rfl
  | [], _ :: _ => by simp [eqKs]
  | _ :: _, [] => by simp [eqKs]
  | x :: xs, y :: ys => by
    simp only [List.map_cons, eqKs, eqK_keyD, eqKs_keyD xs ys, List.cons.injEq]
    by_cases h : x = y <;> by_cases h2 : xs = ys <;> simp [h, h2]
/-- a key of a dict of a kind, as the heap sees it -/
def kOk : Dk → PyData → Bool
  | .k, d => (dKey d).isSome
  | .t, .tuple ks => (dKeys ks).isSome
  | .t, _ => false
def getD (kvs : List (PyData × PyData)) (k : PyData) : Option PyData := (kvs.find? fun z => eqK z.1 k).map (·.2)
def putD (kvs : List (PyData × PyData)) (k v : PyData) : List (PyData × PyData) := if kvs.any (fun z => eqK z.1 k) then kvs.map (fun z => if eqK z.1 k then (z.1, v) else z) else kvs ++ [(k, v)]
def kindD : List (PyData × PyData) → Option Dk
  | (.int _, _) :: _ => some .k
  | (.str _, _) :: _ => some .k
  | (.tuple _, _) :: _ => some .t
  | _ => none
theorem kindD_ok {t : Dk} {o : HO} {vs : List V} {kvs : List (PyData × PyData)} {t' : Dk} (h : kindD kvs = some t') (ho : DcO t o (kvs.map (·.1)) vs) : t = t' := by
  cases t with
  | k =>
    obtain ⟨ks, rfl, h1, _⟩ := ho
    cases kvs with
    | nil => cases h
    | cons z r =>
      cases ks with
      | nil => cases h1
      | cons y s =>
        obtain ⟨d, v⟩ := z
        have h1 := (List.cons.inj h1).1
        have h1 : d = keyD y.1 := h1
        subst h1
        cases hy : y.1 <;> rw [hy] at h <;> cases h <;> rfl
  | t =>
    obtain ⟨ks, rfl, h1, _⟩ := ho
    cases kvs with
    | nil => cases h
    | cons z r =>
      cases ks with
      | nil => cases h1
      | cons y s =>
        obtain ⟨d, v⟩ := z
        have h1 := (List.cons.inj h1).1
        have h1 : d = .tuple (y.1.map keyD) := h1
        subst h1
        cases h
        rfl
section
variable {κ : Type} [DecidableEq κ] {K : PySem.W.Frag} {G : Rg} {H : Hp}
/-- the pairs of the heap and of the data, by an injection of keys -/
theorem get_rel {f : κ → PyData} (hf : ∀ a b, eqK (f a) (f b) = decide (a = b)) (k : κ) : ∀ {ks : List (κ × V)} {kvs : List (PyData × PyData)}, kvs.map (·.1) = ks.map (fun z => f z.1) → DnA K G H (ks.map (·.2)) (kvs.map (·.2)) →
    (valV ks k = none ∧ getD kvs (f k) = none) ∨ ∃ v d, valV ks k = some v ∧ getD kvs (f k) = some d ∧ Dn K G H v d
  | [], [], _, _ => .inl ⟨rfl, rfl⟩
  | [], _ :: _, h, _ => by cases h
  | _ :: _, [], h, _ => by cases h
  | (y, u) :: ks, (x, w) :: kvs, h, hd => by
    have h1 : x = f y := (List.cons.inj h).1
    have h2 := (List.cons.inj h).2
    obtain ⟨d1, d2⟩ : Dn K G H u w ∧ DnA K G H (ks.map (·.2)) (kvs.map (·.2)) := by cases hd; exact ⟨‹_›, ‹_›⟩
    subst h1
    by_cases e : y = k
    · subst e
      exact .inr ⟨u, w, by simp [valV], by simp [getD, hf], d1⟩
    · have e1 : valV ((y, u) :: ks) k = valV ks k := by simp [valV, List.find?_cons, e]
      have e2 : getD ((f y, w) :: kvs) (f k) = getD kvs (f k) := by simp [getD, List.find?_cons, hf, e]
      rw [e1, e2]
      exact get_rel hf k h2 d2
theorem any_rel {f : κ → PyData} (hf : ∀ a b, eqK (f a) (f b) = decide (a = b)) (k : κ) : ∀ {ks : List (κ × V)} {kvs : List (PyData × PyData)}, kvs.map (·.1) = ks.map (fun z => f z.1) → (kvs.any fun z => eqK z.1 (f k)) = ks.any fun z => decide (z.1 = k)
  | [], [], _ => rfl
  | [], _ :: _, h => by cases h
  | _ :: _, [], h => by cases h
  | (y, u) :: ks, (x, w) :: kvs, h => by
    have h1 : x = f y := (List.cons.inj h).1
    subst h1
    simp only [List.any_cons, hf, any_rel hf k (List.cons.inj h).2]
theorem rep_rel {f : κ → PyData} (hf : ∀ a b, eqK (f a) (f b) = decide (a = b)) (k : κ) {v : V} {d : PyData} (hv : Dn K G H v d) : ∀ {ks : List (κ × V)} {kvs : List (PyData × PyData)}, kvs.map (·.1) = ks.map (fun z => f z.1) → DnA K G H (ks.map (·.2)) (kvs.map (·.2)) →
    (kvs.map (fun z => if eqK z.1 (f k) then (z.1, d) else z)).map (·.1) = (ks.map (fun z => if z.1 = k then (z.1, v) else z)).map (fun z => f z.1) ∧ DnA K G H ((ks.map (fun z => if z.1 = k then (z.1, v) else z)).map (·.2)) ((kvs.map (fun z => if eqK z.1 (f k) then (z.1, d) else z)).map (·.2))
  | [], [], _, _ => ⟨rfl, .nil⟩
  | [], _ :: _, h, _ => by cases h
  | _ :: _, [], h, _ => by cases h
  | (y, u) :: ks, (x, w) :: kvs, h, hd => by
    have h1 : x = f y := (List.cons.inj h).1
    obtain ⟨d1, d2⟩ : Dn K G H u w ∧ DnA K G H (ks.map (·.2)) (kvs.map (·.2)) := by cases hd; exact ⟨‹_›, ‹_›⟩
    subst h1
    obtain ⟨i1, i2⟩ := rep_rel hf k hv (List.cons.inj h).2 d2
    by_cases e : y = k
    · subst e
      simp only [List.map_cons, hf, decide_true, if_true]
      exact ⟨by rw [i1], .cons hv i2⟩
    · simp only [List.map_cons, hf, e, decide_false, if_false, Bool.false_eq_true]
      exact ⟨by rw [i1], .cons d1 i2⟩
theorem put_rel {f : κ → PyData} (hf : ∀ a b, eqK (f a) (f b) = decide (a = b)) (k : κ) {v : V} {d : PyData} (hv : Dn K G H v d) {ks : List (κ × V)} {kvs : List (PyData × PyData)} (h : kvs.map (·.1) = ks.map (fun z => f z.1)) (hd : DnA K G H (ks.map (·.2)) (kvs.map (·.2))) :
    (putD kvs (f k) d).map (·.1) = (putK ks k v).map (fun z => f z.1) ∧ DnA K G H ((putK ks k v).map (·.2)) ((putD kvs (f k) d).map (·.2)) := by
  unfold putD putK
  rw [any_rel hf k h]
  by_cases e : (ks.any fun z => decide (z.1 = k)) = true
  · rw [if_pos e, if_pos e]
    exact rep_rel hf k hv h hd
  · rw [if_neg e, if_neg e]
    simp only [List.map_append, h, List.map_cons, List.map_nil, true_and]
    exact hd.append (.cons hv .nil)
end
theorem hfK : ∀ a b : Key, eqK (keyD a) (keyD b) = decide (a = b) := eqK_keyD
theorem hfT : ∀ a b : List Key, eqK (.tuple (a.map keyD)) (.tuple (b.map keyD)) = decide (a = b) := eqKs_keyD
/-- looking up: the heap's answer and the data's -/
theorem dget_rel {K : PySem.W.Frag} {G : Rg} {H : Hp} {a : Addr} {o : HO} {t : Dk} {vs : List V} {kvs : List (PyData × PyData)} {y : V} {k : PyData} {G' : Rg} (hr : Rd H a o) (ho : DcO t o (kvs.map (·.1)) vs) (hd : DnA K G H vs (kvs.map (·.2))) (hk : kOk t k = true) (hy : Dn K G' H y k) :
    (DGet H a y none ∧ getD kvs k = none) ∨ ∃ v d, DGet H a y (some v) ∧ getD kvs k = some d ∧ Dn K G H v d := by
  cases t with
  | k =>
    obtain ⟨ks, rfl, h1, rfl⟩ := ho
    cases e : dKey k with
    | none => simp [kOk, e] at hk
    | some kk =>
      have hv := dKey_ok e hy
      have he := dKey_eq e
      subst hv he
      rcases get_rel (f := keyD) hfK kk h1 hd with ⟨g1, g2⟩ | ⟨v, d, g1, g2, g3⟩
      · exact .inl ⟨.inl ⟨ks, kk, hr, rfl, g1.symm⟩, g2⟩
      · exact .inr ⟨v, d, .inl ⟨ks, kk, hr, rfl, g1.symm⟩, g2, g3⟩
  | t =>
    obtain ⟨ks, rfl, h1, rfl⟩ := ho
    cases k <;> try (simp [kOk] at hk; done)
    rename_i xs
    cases e : dKeys xs with
    | none => simp [kOk, e] at hk
    | some kk =>
      obtain ⟨b, ws, rfl, hb, hw⟩ := dn_tupleH hy
      have hv := dKeys_ok e hw
      have he := dKeys_eq e
      subst hv he
      rcases get_rel (f := fun z : List Key => .tuple (z.map keyD)) hfT kk h1 hd with ⟨g1, g2⟩ | ⟨v, d, g1, g2, g3⟩
      · exact .inl ⟨.inr ⟨ks, kk, b, hr, rfl, hb, g1.symm⟩, g2⟩
      · exact .inr ⟨v, d, .inr ⟨ks, kk, b, hr, rfl, hb, g1.symm⟩, g2, g3⟩
/-- storing -/
theorem dput_rel {K : PySem.W.Frag} {G : Rg} {H : Hp} {a : Addr} {o : HO} {t : Dk} {vs : List V} {kvs : List (PyData × PyData)} {y v : V} {k d : PyData} {G' : Rg} (hr : H a = some o) (ho : DcO t o (kvs.map (·.1)) vs) (hd : DnA K G H vs (kvs.map (·.2))) (hk : kOk t k = true) (hy : Dn K G' H y k) (hv : Dn K G H v d) (hl : kvs.length < sizeLine) :
    ∃ o' vs', DPut H a y v (upd H a o') ∧ DcO t o' ((putD kvs k d).map (·.1)) vs' ∧ DnA K G H vs' ((putD kvs k d).map (·.2)) := by
  cases t with
  | k =>
    obtain ⟨ks, rfl, h1, rfl⟩ := ho
    cases e : dKey k with
    | none => simp [kOk, e] at hk
    | some kk =>
      have hv' := dKey_ok e hy
      have he := dKey_eq e
      subst hv' he
      obtain ⟨p1, p2⟩ := put_rel (f := keyD) hfK kk hv h1 hd
      have hlen : ks.length = kvs.length := by have := congrArg List.length h1; simpa using this.symm
      exact ⟨_, _, .inl ⟨ks, kk, hr, rfl, by rw [hlen]; exact hl, rfl⟩, ⟨_, rfl, p1, rfl⟩, p2⟩
  | t =>
    obtain ⟨ks, rfl, h1, rfl⟩ := ho
    cases k <;> try (simp [kOk] at hk; done)
    rename_i xs
    cases e : dKeys xs with
    | none => simp [kOk, e] at hk
    | some kk =>
      obtain ⟨b, ws, rfl, hb, hw⟩ := dn_tupleH hy
      have hv' := dKeys_ok e hw
      have he := dKeys_eq e
      subst hv' he
      obtain ⟨p1, p2⟩ := put_rel (f := fun z : List Key => .tuple (z.map keyD)) hfT kk hv h1 hd
      have hlen : ks.length = kvs.length := by have := congrArg List.length h1; simpa using this.symm
      exact ⟨_, _, .inr ⟨ks, kk, b, hr, rfl, hb, by rw [hlen]; exact hl, rfl⟩, ⟨_, rfl, p1, rfl⟩, p2⟩
end PD


set_option Elab.async false
set_option linter.all false
set_option maxRecDepth 100000
set_option maxHeartbeats 4000000
set_option autoImplicit false
namespace PD
open PySem L2
theorem dn_dict {K : PySem.W.Frag} {G : Rg} {H : Hp} {v : V} {kvs : List (PyData × PyData)} (h : Dn K G H v (.dict kvs)) {t0 : Dk} (hk : kindD kvs = some t0) : ∃ a o t vs, v = .ref a ∧ (∃ ob, G a (.frz ob o)) ∧ DcO t o (kvs.map (·.1)) vs ∧ DnA K G H vs (kvs.map (·.2)) := by
  cases h with
  | dct h1 h2 h3 => exact ⟨_, _, _, _, rfl, h1, h2, h3⟩
  | exc _ _ _ _ => cases hk
  | exc0 _ => cases hk
section
variable {X : Cx} {W : WX} {sc : Scope} {N : List Str} {a b c e e2 o : Expr} {es : List Expr} {apos cpos pos p p2 : Pos} {k : DA} {f g : DF} {s : Stmt}
/-- a value read as a dict -/
def dicA (Γ : List Sl) : AV → Option (Bool × Dk × List (PyData × PyData))
  | .d fr (.dict kvs) => (kindD kvs).map fun t => (fr, t, kvs)
  | .s j => match Γ[j]? with
    | some (.own (.dic t kvs)) => some (true, t, kvs)
    | some (.io (.dic t kvs)) => some (true, t, kvs)
    | _ => none
  | _ => none
theorem dicA_ok {Γ : List Sl} {x : AV} {z : Bool × Dk × List (PyData × PyData)} {G : Gh} {H : Hp} {σ : St} {v : V} (h : dicA Γ x = some z) (S : Sta X.K G H σ Γ) (hv : AVok X.K G H σ v x) : ∃ l o vs, v = .ref l ∧ Rd H l o ∧ DcO z.2.1 o (z.2.2.map (·.1)) vs ∧ DnA X.K (rg G z.1) H vs (z.2.2.map (·.2)) := by
  unfold dicA at h
  split at h
  · rename_i fr kvs
    cases hk : kindD kvs with
    | none => rw [hk] at h; cases h
    | some t =>
      rw [hk] at h
      cases h
      obtain ⟨l, o, t', vs, rfl, h1, h2, h3⟩ := dn_dict hv hk
      have := kindD_ok hk h2
      subst this
      exact ⟨l, o, vs, rfl, .inr (h1.imp fun _ z => S.w.rgl fr _ _ z), h2, h3⟩
  · rename_i j
    obtain ⟨A, T⟩ := S
    have hv : σ[j]? = some (some v) := hv
    split at h
    · cases h
      obtain ⟨u, h1, _, p, o, vs, rfl, _, h3, h4, h5⟩ := T.sl j _ ‹_›
      rw [h1] at hv
      cases hv
      exact ⟨p, o, vs, rfl, .inl h3, h4, h5⟩
    · cases h
      obtain ⟨u, h1, _, p, o, vs, rfl, _, h3, h4, h5⟩ := T.sl j _ ‹_›
      rw [h1] at hv
      cases hv
      exact ⟨p, o, vs, rfl, .inl h3, h4, h5⟩
    · cases h
  · cases h
theorem rdD_av {Γ : List Sl} {x : AV} {d : PyData} {G : Gh} {H : Hp} {σ : St} {v : V} (h : rdD Γ x = some d) (S : Sta X.K G H σ Γ) (hv : AVok X.K G H σ v x) : Dn X.K (RgH H) H v d := (rdD_ok h).ok S hv
/-! ## d[k], also of lists and tuples and texts -/
def rIxD : R2 := fun x y H Q => ∃ a v, x = .ref a ∧ DGet H a y (some v) ∧ Q v H
theorem ix_dict (hu : X.A.units + 1 < cLine) : IxR X rIxD := by
  intro value slice pins s σ H x y v u Q I rx ry h hs
  obtain ⟨a, w, rfl, g, q⟩ := h
  cases rx
  exact PyProof.Rows.tail_any (dict_typeIs I g) PySem.F.slot_dict_getitem.lookup (d_getItem hu I g ry fun w' s' I' rw' => ⟨w, H, I', rw', q⟩) hs
def ixB (Γ : List Sl) (x y : AV) : R AV := match dicA Γ x with
  | some z => match y with
    | .d _ kk => (R.req (kOk z.2.1 kk)).bind fun _ => (R.ofO (getD z.2.2 kk)).bind fun d => .val (.d z.1 d)
    | _ => .bad
  | none => ixA Γ x y
def dIxB (f g : DF) : DF := fun Γ => (f Γ).bind fun x => (g x.2).bind fun y => (ixB y.2 x.1 y.1).bind fun z => .val (z, y.2)
theorem ce_ixB (C : Cf0 X W sc N) (ha : CE X W a f) (hb : CE X W b g) (hs : PlainIx b := by exact fun _ _ => rfl) : CE X W (.Subscript a b pos) (dIxB f g) := fun Γ =>
  pe_imp (pe_ix ((ix_dict (u1 C)).or ix_seq) (ha Γ) (pe_any fun x : AV × List Sl => hb x.2) hs) fun σ H Q h => bin_rd (X := X) (W := W) (ava := Prod.fst) (Γa := Prod.snd) (avb := fun _ (y : AV × List Sl) => y.1) (Γb := fun _ (y : AV × List Sl) => y.2) (avk := Prod.fst) (Γk := Prod.snd) (k := fun (x : AV × List Sl) (y : AV × List Sl) => (ixB y.2 x.1 y.1).bind fun z => .val (z, y.2)) (fun x y G H σ u v Q S hu hv p => by
    obtain ⟨x, Γ1⟩ := x
    obtain ⟨y, Γ2⟩ := y
    simp only at hu hv S p
    unfold ixB at p
    split at p
    · rename_i z hz
      split at p
      · rename_i fr kk
        have hk : kOk z.2.1 kk = true := by
          cases hc : kOk z.2.1 kk with
          | true => rfl
          | false => rw [hc] at p; exact p.elim
        rw [hk] at p
        have p : Pst X W G H σ (((R.ofO (getD z.2.2 kk)).bind fun d => R.val (AV.d z.1 d)).bind fun z => .val (z, Γ2)) (fun z G' H' => ∀ (w : V), Sta X.K G' H' σ z.snd → AVok X.K G' H' σ w z.fst → Q w H') := p
        obtain ⟨d, hd⟩ : ∃ d, getD z.2.2 kk = some d := by
          cases hc : getD z.2.2 kk with
          | none => rw [hc] at p; exact p.elim
          | some d => exact ⟨d, rfl⟩
        rw [hd] at p
        obtain ⟨l, o, vs, rfl, h1, h2, h3⟩ := dicA_ok hz S hu
        rcases dget_rel h1 h2 h3 hk hv with ⟨_, g2⟩ | ⟨w, d', g1, g2, g3⟩
        · rw [hd] at g2; cases g2
        · rw [hd] at g2; cases g2
          exact .inl ⟨l, w, rfl, g1, p G H (Ext.rf S.w) w S g3⟩
      · exact p.elim
    · rename_i hnone
      clear hnone
      refine .inr ?_
      unfold ixA at p
      split at p
      · rename_i fr ds _ i
        cases hz : atI ds i with
        | none => rw [hz] at p; exact p.elim
        | some d =>
          rw [hz] at p
          obtain ⟨q, xs, rfl, g1, g2⟩ := dn_list hu
          obtain ⟨w, g3, g4⟩ := atI_dn g2 hz
          exact .inl ⟨q, xs, i, w, rfl, dn_int hv, (g1.mono (S.w.rgl fr)).sq, g3, p G H (Ext.rf S.w) w S g4⟩
      · rename_i fr ds _ i
        cases hz : atI ds i with
        | none => rw [hz] at p; exact p.elim
        | some d =>
          rw [hz] at p
          obtain ⟨q, xs, rfl, g1, g2⟩ := dn_tuple hu
          obtain ⟨w, g3, g4⟩ := atI_dn g2 hz
          exact .inr (.inl ⟨q, xs, i, w, rfl, dn_int hv, g1, g3, p G H (Ext.rf S.w) w S g4⟩)
      · rename_i j _ i
        split at p
        · rename_i ds hd
          cases hz : atI ds i with
          | none => rw [hz] at p; exact p.elim
          | some d =>
            rw [hz] at p
            obtain ⟨q, xs, rfl, g1, g2⟩ := S.slotL hd hu
            obtain ⟨w, g3, g4⟩ := atI_dn g2 hz
            exact .inl ⟨q, xs, i, w, rfl, dn_int hv, SqL.of g1, g3, p G H (Ext.rf S.w) w S g4⟩
        · exact p.elim
      · exact p.elim) h
/-! ## k in d -/
def rInD (neg : Bool) : R2 := fun y x H Q => ∃ a o, x = .ref a ∧ DGet H a y o ∧ Q (.bl (o.isSome != neg)) H
theorem op_inDict (hu : X.A.units + 1 < cLine) : OpR X (compareOp .In) (rInD false) := by
  intro pins s σ H x y v u Q I rx ry h
  obtain ⟨a, o, rfl, g, q⟩ := h
  cases ry
  exact d_in hu I g rx fun s' I' => ⟨.bl o.isSome, H, I', rfl, by rw [Bool.bne_false] at q; exact q⟩
theorem op_notInDict (hu : X.A.units + 1 < cLine) : OpR X (compareOp .NotIn) (rInD true) := by
  intro pins s σ H x y v u Q I rx ry h
  obtain ⟨a, o, rfl, g, q⟩ := h
  cases ry
  exact d_notIn hu I g rx fun s' I' => ⟨.bl (!o.isSome), H, I', rfl, by rw [Bool.bne_true] at q; exact q⟩
def kInB (Γ : List Sl) (x y : AV) : R Bool := match dicA Γ y with
  | some z => match rdD Γ x with
    | some kk => gq (kOk z.2.1 kk) (getD z.2.2 kk).isSome
    | none => .bad
  | none => kIn Γ x y
def kNinB (Γ : List Sl) (x y : AV) : R Bool := (kInB Γ x y).bind fun z => .val (!z)
theorem kInB_cases {G : Gh} {H : Hp} {σ : St} {Γ : List Sl} {x y : AV} {u v : V} (S : Sta X.K G H σ Γ) (hu : AVok X.K G H σ u x) (hv : AVok X.K G H σ v y) : kInB Γ x y = .bad ∨ ∃ z, kInB Γ x y = .val z ∧
    ((∃ l o, v = .ref l ∧ DGet H l u o ∧ z = o.isSome) ∨ (∃ d ds, Dp X.K H u d ∧ Dp X.K H v (.list ds) ∧ SeqAt.shaped d = true ∧ SeqAt.shaped (.list ds) = true ∧ z = ds.any fun z => PyData.eqv z d) ∨
     (∃ p xs, v = .ref p ∧ SqT X.K H p xs ∧ flatV u = true ∧ xs.all flatV = true ∧ z = inV u xs)) := by
  unfold kInB
  cases hz : dicA Γ y with
  | none =>
    rcases kIn_cases S hu hv with e | ⟨z, e, r⟩
    · exact .inl e
    · exact .inr ⟨z, e, .inr r⟩
  | some z =>
    cases hd : rdD Γ x with
    | none => exact .inl rfl
    | some kk =>
      cases hk : kOk z.2.1 kk with
      | false => left; simp only [hk]; rfl
      | true =>
        obtain ⟨l, o, vs, rfl, h1, h2, h3⟩ := dicA_ok hz S hv
        refine .inr ⟨(getD z.2.2 kk).isSome, by simp only [hk]; rfl, .inl ⟨l, ?_⟩⟩
        rcases dget_rel h1 h2 h3 hk (rdD_av hd S hu) with ⟨g1, g2⟩ | ⟨w, d', g1, g2, g3⟩
        · exact ⟨none, rfl, g1, by rw [g2]; rfl⟩
        · exact ⟨some w, rfl, g1, by rw [g2]; rfl⟩
theorem ce_inB (C : Cf0 X W sc N) (ha : CE X W a f) (hb : CE X W b g) (hm : behindInMarks .In b = false := by rfl) : CE X W (.Compare a [.In] [b] pos) (dCmp kInB f g) :=
  ce_cmp2 (fun x y Γ2 => boolR (kInB Γ2 x y) Γ2) (opR_or (op_inDict (u1 C)) (opR_or (op_inD (u65 C)) op_in_seq)) hm ha hb fun x y Γ2 G H σ u v Q S hu hv p => by
    rcases kInB_cases S hu hv with e | ⟨z, e, ⟨l, o, rfl, h1, rfl⟩ | ⟨d, ds, h1, h2, h3, h4, rfl⟩ | ⟨q, xs, rfl, h1, h2, h3, rfl⟩⟩
    · rw [e] at p; exact p.elim
    · rw [e] at p; exact .inl ⟨l, o, rfl, h1, by rw [Bool.bne_false]; exact Pk.v p S (.bl _)⟩
    · rw [e] at p; exact .inr (.inl ⟨d, ds, h1, h2, h3, h4, Pk.v p S (.bl _)⟩)
    · rw [e] at p; exact .inr (.inr ⟨q, xs, rfl, .inr h1, h2, h3, Pk.v p S (.bl _)⟩)
theorem ce_notinB (C : Cf0 X W sc N) (ha : CE X W a f) (hb : CE X W b g) (hm : behindInMarks .NotIn b = false := by rfl) : CE X W (.Compare a [.NotIn] [b] pos) (dCmp kNinB f g) :=
  ce_cmp2 (fun x y Γ2 => boolR (kNinB Γ2 x y) Γ2) (opR_or (op_notInDict (u1 C)) (opR_or (op_notInD (u65 C)) op_notIn_seq)) hm ha hb fun x y Γ2 G H σ u v Q S hu hv p => by
    unfold kNinB at p
    rcases kInB_cases S hu hv with e | ⟨z, e, ⟨l, o, rfl, h1, rfl⟩ | ⟨d, ds, h1, h2, h3, h4, rfl⟩ | ⟨q, xs, rfl, h1, h2, h3, rfl⟩⟩
    · rw [e] at p; exact p.elim
    · rw [e] at p; exact .inl ⟨l, o, rfl, h1, by rw [Bool.bne_true]; exact Pk.v p S (.bl _)⟩
    · rw [e] at p; exact .inr (.inl ⟨d, ds, h1, h2, h3, h4, Pk.v p S (.bl _)⟩)
    · rw [e] at p; exact .inr (.inr ⟨q, xs, rfl, .inr h1, h2, h3, Pk.v p S (.bl _)⟩)
/-! ## new dicts -/
def nDic0 (t : Dk) : DC := fun Γ => .val (.dic t [], Γ)
theorem cc_dic0 (t : Dk) : CC X W (.Dict [] [] pos) (nDic0 t) := fun Γ => by
  cases t with
  | k => exact pe_imp pe_dnewK fun σ H Q ⟨G, S, q⟩ p hp => q G H (Ext.rf S.w) _ _ S (newc_dic (o := .dK []) (vs := []) hp ⟨[], rfl, rfl, rfl⟩ .nil)
  | t => exact pe_imp pe_dnewT fun σ H Q ⟨G, S, q⟩ p hp => q G H (Ext.rf S.w) _ _ S (newc_dic (o := .dT []) (vs := []) hp ⟨[], rfl, rfl, rfl⟩ .nil)
/-! ## x[i] = v -/
def cellC (Γ : List Sl) (i : Nat) : Option (Bool × Cl) := match Γ[i]? with
  | some (.own c) => some (false, c)
  | some (.io c) => some (true, c)
  | _ => none
theorem cellC_ok {Γ : List Sl} {i : Nat} {z : Bool × Cl} (h : cellC Γ i = some z) : Γ[i]? = some (mkS z.1 z.2) := by
  unfold cellC at h
  split at h
  · cases h; exact ‹_›
  · cases h; exact ‹_›
  · cases h
def putC : Cl → PyData → PyData → Option Cl
  | .lst ds, .int k, v => (ixN ds.length k).map fun j => .lst (ds.set j v)
  | .dic t kvs, k, v => if kOk t k && decide (kvs.length < sizeLine) then some (.dic t (putD kvs k v)) else none
  | _, _, _ => none
theorem putC_cases {c c' : Cl} {k v : PyData} (h : putC c k v = some c') : (∃ ds k' j, c = .lst ds ∧ k = .int k' ∧ ixN ds.length k' = some j ∧ c' = .lst (ds.set j v)) ∨ ∃ t kvs, c = .dic t kvs ∧ kOk t k = true ∧ kvs.length < sizeLine ∧ c' = .dic t (putD kvs k v) := by
  unfold putC at h
  split at h
  · rename_i ds k'
    cases hj : ixN ds.length k' with
    | none => rw [hj] at h; cases h
    | some j => rw [hj] at h; cases h; exact .inl ⟨ds, k', j, rfl, rfl, hj, rfl⟩
  · rename_i t kvs
    split at h
    · rename_i hc
      cases h
      rw [Bool.and_eq_true] at hc
      exact .inr ⟨t, kvs, rfl, hc.1, of_decide_eq_true hc.2, rfl⟩
    · cases h
  · cases h
def bPut (i : Nat) (fe fi : DF) : DS := fun Γ => (dFrz fe Γ).bind fun z => (R.ofO (cellC z.2 i)).bind fun _ => (fi z.2).bind fun y => (R.ofO (cellC y.2 i)).bind fun c => match z.1, y.1 with
  | .d true v, .d _ kk => (R.ofO (putC c.2 kk v)).bind fun c' => .val (.nx, y.2.set i (mkS c.1 c'))
  | _, _ => .bad
theorem tup_mut {H : Hp} {p : Addr} {o o' : HO} (h : H p = some o) (ht : ∀ xs, o ≠ .tup xs) : TupLe H (upd H p o') := fun a xs e => by
  have : a ≠ p := fun q => by rw [q, h] at e; exact ht xs (Option.some.inj e)
  rw [upd_ne this]; exact e
theorem c1_put (C : Cf0 X W sc N) (i : Nat) {x : Str} {p' tpos : Pos} {fe fi : DF} (hN : N[i]? = some x) (hv : visB sc x = true) (he : CE X W e fe) (hi : CE X W b fi) (hd : (x == ("__debug__" : Str)) = false := by decide +kernel) (hcd : (x == ("__classdict__" : Str)) = false := by decide +kernel)
    (has : ∀ v, assign (.Subscript (.Name x p') b tpos) X.env v = (do
      let ov ← holding [v] (eval (.Name x p') X.env)
      let iv ← holding [v, ov] (eval b X.env)
      standAt tpos
      holding [v, ov, iv] (setItem ov iv v)
      release [v, ov, iv] []) := by intro _; rfl)
    (hs : swapsWithSole [.Subscript (.Name x p') b tpos] e pos.line X.env = pure false := by rfl) (hw : swappedStores [.Subscript (.Name x p') b tpos] e X.env = pure none := by rfl) (h1 : (assignEach [.Subscript (.Name x p') b tpos] X.env).map (·.2) = [assign (.Subscript (.Name x p') b tpos) X.env] := by rfl) :
    C1 X W (.Assign [.Subscript (.Name x p') b tpos] e pos) (bPut i fe fi) := fun Γ =>
  ps_imp (ps_asg (ce_frz he Γ) (pg_sub (pe_any fun z : {z : AV × List Sl // (cellC z.2 i).isSome} => evp_cell (W := W) (c := ((cellC z.1.2 i).get z.2).2) C (cellC_ok (Option.some_get _).symm) hN hv hd hcd) (pe_any fun z : AV × List Sl => hi z.2) (set_or set_list (set_dict (u1 C))) has) hs hw h1) fun D σ H ⟨G, S, p⟩ => ⟨G, S, (Pst.bind p).imp fun z G1 H1 e1 p1 v S1 a1 => by
    obtain ⟨c0, hc0, p1⟩ := Pst.ofO p1
    refine ⟨⟨z, by rw [hc0]; rfl⟩, G1, S1, fun G2 H2 e2 u S2 hu => ⟨z, G2, S2, (Pst.bind (Pst.ext p1 e2)).imp fun y G3 H3 e3 p3 w S3 hw3 => ?_⟩⟩
    obtain ⟨c, hc, p3⟩ := Pst.ofO p3
    have hu : σ[i]? = some (some u) := hu
    obtain ⟨u', fp, g1, g2, g3⟩ := S3.chg1 i c.1 (cellC_ok hc)
    rw [hu] at g1
    cases g1
    have a1 := a1.ext (e2.tr e3)
    split at p3
    · rename_i vd fr kk hz hy
      rw [hz] at a1
      rw [hy] at hw3
      obtain ⟨c', hc', p3⟩ := Pst.ofO p3
      have a1 : Dn X.K (rg G3 true) H3 v vd := a1
      have hw3 : Dn X.K (rg G3 fr) H3 w kk := hw3
      have fin : ∀ H4, Sta X.K G3 H4 σ (y.2.set i (mkS c.1 c')) ∧ Ext G3 H3 G3 H4 → D.nx σ H4 := fun H4 ⟨S4, e4⟩ => p3 G3 H4 e4 σ S4
      obtain ⟨io, cc⟩ := c
      have g2 : cc.ok X.K (rg G3 true) H3 u fp := g2
      rcases putC_cases hc' with ⟨ds, k', j, e1, rfl, hj, rfl⟩ | ⟨t, kvs, e1, hk, hl, rfl⟩
      · have e1 : cc = .lst ds := e1
        subst e1
        obtain ⟨q, vs, rfl, hfp, hq, hd'⟩ := g2
        refine .inl ⟨q, vs, k', j, rfl, dn_int hw3, hq, by rw [hd'.length]; exact hj, fin _ (g3 q _ _ _ hfp hq (fun _ h => by cases h) (fun _ _ h => by cases h) ⟨q, _, rfl, rfl, upd_same, ?_⟩)⟩
        exact (DnA.set a1 j hd').mono (fun _ _ z => z) (tup_mut hq (fun _ h => by cases h))
      · have e1 : cc = .dic t kvs := e1
        subst e1
        obtain ⟨q, o, vs, rfl, hfp, hq, ho, hd'⟩ := g2
        obtain ⟨o', vs', k1, k2, k3⟩ := dput_rel hq ho hd' hk hw3 a1 hl
        have nt : (∀ xs, o ≠ .tup xs) ∧ ∀ x y, o ≠ .frz x y := by
          cases t with
          | k => obtain ⟨_, rfl, _⟩ := ho; exact ⟨fun _ h => (by cases h), fun _ _ h => (by cases h)⟩
          | t => obtain ⟨_, rfl, _⟩ := ho; exact ⟨fun _ h => (by cases h), fun _ _ h => (by cases h)⟩
        exact .inr ⟨q, _, rfl, k1, fin _ (g3 q _ _ _ hfp hq nt.1 nt.2 ⟨q, o', vs', rfl, rfl, upd_same, k2, k3.mono (fun _ _ z => z) (tup_mut hq nt.1)⟩)⟩
    · exact p3.elim⟩
end
end PD


set_option Elab.async false
set_option linter.all false
set_option maxRecDepth 100000
set_option maxHeartbeats 4000000
set_option autoImplicit false
namespace PD
open PySem L2
section
variable {X : Cx} {W : WX} {sc : Scope} {N : List Str} {a b c e e2 e3 o tg : Expr} {es : List Expr} {apos cpos pos p p1 p2 p3 : Pos} {k : DA} {f g h : DF} {s : Stmt}
/-! ## x += e -/
def intS : Option Sl → Option Int
  | some (.dat _ (.int i)) => some i
  | _ => none
def bInc (i : Nat) (fe : DF) : DS := fun Γ => (R.ofO (intS Γ[i]?)).bind fun n => (fe Γ).bind fun z => (R.ofO (intA z.1)).bind fun m => .val (.nx, z.2.set i (.dat true (.int (n + m))))
theorem c1_inc (C : Cf0 X W sc N) (i : Nat) {x : Str} {p' : Pos} {fe : DF} (hN : N[i]? = some x) (hv : Sto X sc x) (he : CE X W e fe) : C1 X W (.AugAssign (.Name x p') .Add e pos) (bInc i fe) := fun Γ => by
  have hx : Loc X.env.scope x := by rw [C.hsc]; exact hv.1
  refine ps_imp (ps_aug (i := i) (by rw [C.hN]; exact C.nd) (by rw [C.hN]; exact hN) hx (he Γ) iop_add (by rw [C.hsc]; exact hv.2)) fun D σ H ⟨G, S, p⟩ => ?_
  obtain ⟨n, hn, p⟩ := Pst.ofO p
  obtain ⟨A, T⟩ := id S
  have hs : ∃ fr, Γ[i]? = some (.dat fr (.int n)) := by
    unfold intS at hn
    split at hn
    · cases hn; exact ⟨_, ‹_›⟩
    · cases hn
  obtain ⟨fr, hs⟩ := hs
  obtain ⟨_, v, q1, q2⟩ := T.sl i _ hs
  refine ⟨v, q1, G, S, (Pst.bind p).imp fun z G1 H1 e1 p1 u S1 h2 => ?_⟩
  obtain ⟨m, hm, p1⟩ := Pst.ofO p1
  exact ⟨n, m, dn_int q2, intA_ok hm h2, p1 G1 H1 (Ext.rf S1.w) _ (S1.put i (.int _))⟩
/-! ## xs[::-1] -/
def dRev (f : DF) : DN := fun Γ => (f Γ).bind fun x => (R.ofO (lsA x.2 x.1)).bind fun ds => .val (ds.reverse, x.2)
theorem cn_rev {kk : Nat} (ha : CE X W a f) : CN X W (.Subscript a (.Slice none none (some (.UnaryOp .USub (.Constant (.int 1) kk p1) p2)) p3) pos) (dRev f) := fun Γ =>
  pe_imp (pe_revL (ha Γ)) fun σ H Q ⟨G, S, q⟩ => ⟨G, S, (Pst.bind q).imp fun x G1 H1 e1 q1 v S1 hv => by
    obtain ⟨ds, h1, q1⟩ := Pst.ofO q1
    obtain ⟨l, xs, rfl, g1, g2⟩ := lsA_ok h1 S1 hv
    exact ⟨l, xs, rfl, g1, fun r hr => q1 G1 H1 (Ext.rf S1.w) r _ S1 hr g2.reverse⟩⟩
/-! ## t[lo:hi] of a tuple -/
theorem ce_cutT {lo hi : Option Expr} {fl fh : DO} (ha : CE X W a f) (hl : CO X W lo fl) (hh : CO X W hi fh) : CE X W (.Subscript a (.Slice lo hi none p2) pos) (dCutT f fl fh) := fun Γ =>
  pe_imp (pe_slice sl_tupA (ha Γ) (po_any fun x : AV × List Sl => hl x.2) (po_any fun x : Option Int × List Sl => hh x.2)) fun σ H Q ⟨G, S, q⟩ => ⟨G, S, (Pst.bind q).imp fun x G1 H1 e1 q1 v S1 hv => ⟨x, G1, S1, (Pst.bind q1).imp fun l G2 H2 e2 q2 S2 => ⟨l, G2, S2, (Pst.bind q2).imp fun h G3 H3 e3 q3 S3 => by
    have hv := hv.ext (e2.tr e3)
    split at q3
    · rename_i fr ds hx
      rw [hx] at hv
      obtain ⟨r, xs, rfl, g1, g2⟩ := dn_tupleH hv
      refine ⟨r, xs, rfl, SqT.of g1, fun hw => ?_, fun hw t ht => ?_⟩
      · refine q3 G3 H3 (Ext.rf S3.w) _ S3 ?_
        rw [g2.length] at hw
        show Dn X.K (rg G3 fr) H3 _ (.tuple (cutD ds l.1 h.1))
        rw [cut_whole ds hw]
        exact .tup g1 g2
      · obtain ⟨G4, S4, e4, h4⟩ := S3.newTup ht (g2.cut l.1 h.1)
        exact q3 G4 _ e4 _ S4 h4
    · exact q3.elim⟩⟩⟩
/-! ## zip of two lists, of two tuples -/
theorem itd_zipT {K : PySem.W.Frag} {G : Gh} {H : Hp} {a b : Addr} {xs ys : List V} {ds es : List PyData} {fr : Bool} (h : H a = some (.tup xs)) (hd : DnA K (rg G fr) H xs ds) (h' : H b = some (.tup ys)) (hd' : DnA K (rg G fr) H ys es) : ItD K G H (RZ.ItzT K a b) (zipD ds es) fr := by
  have sq : ∀ G2 H2, Le G H G2 H2 → SqT K H2 a xs := fun G2 H2 e => SqT.of (e.t _ _ h)
  have sq' : ∀ G2 H2, Le G H G2 H2 → SqT K H2 b ys := fun G2 H2 e => SqT.of (e.t _ _ h')
  have hl := hd.length
  have hl' := hd'.length
  have hl2 : (zipD ds es).length = min xs.length ys.length := by unfold zipD; simp [hl, hl']
  refine ⟨fun i G2 H2 hi e => ?_, fun i G2 H2 σ Γ v H3 hi e S y => ?_, fun G2 H2 e => ⟨xs, ys, sq G2 H2 e, sq' G2 H2 e, by rw [hl2]; omega⟩⟩
  · rw [hl2] at hi
    exact ⟨xs, ys, xs[i]'(by omega), ys[i]'(by omega), sq G2 H2 e, sq' G2 H2 e, by simp, by simp⟩
  · obtain ⟨T, x, z, rfl, hT, rfl, hy, hy'⟩ := y
    obtain ⟨d, h1, h2⟩ := (e.dna hd).get (hy xs (sq G2 _ e))
    obtain ⟨d', h1', h2'⟩ := (e.dna hd').get (hy' ys (sq' G2 _ e))
    obtain ⟨G3, e3, S3, h3⟩ := sta_pair S hT h2 h2'
    refine ⟨G3, _, ?_, e3, S3, h3⟩
    unfold zipD
    rw [List.getElem?_zipWith, h1, h1']
def zipA : AV → AV → Option (List PyData × Bool)
  | .d f1 (.list ds), .d f2 (.list es) => some (zipD ds es, f1 && f2)
  | .d f1 (.tuple ds), .d f2 (.tuple es) => some (zipD ds es, f1 && f2)
  | _, _ => none
theorem zipA_cases {x y : AV} {z : List PyData × Bool} (h : zipA x y = some z) : (∃ f1 ds f2 es, x = .d f1 (.list ds) ∧ y = .d f2 (.list es) ∧ z = (zipD ds es, f1 && f2)) ∨ ∃ f1 ds f2 es, x = .d f1 (.tuple ds) ∧ y = .d f2 (.tuple es) ∧ z = (zipD ds es, f1 && f2) := by
  unfold zipA at h
  split at h
  · cases h; exact .inl ⟨_, _, _, _, rfl, rfl, rfl⟩
  · cases h; exact .inr ⟨_, _, _, _, rfl, rfl, rfl⟩
  · cases h
def iZip (f g : DF) : DI := fun Γ => (f Γ).bind fun x => (g x.2).bind fun y => (R.ofO (zipA x.1 y.1)).bind fun z => .val (z, y.2)
theorem ci_zip (C : Cf0 X W sc N) {elts : List Expr} {kk : Nat} {tpos : Pos} (hg : glB sc "zip" = true) (hm : X.mg "zip" = none) (ha : CE X W e f) (hb : CE X W e2 g) (hs : starEach [e, e2] X.env = (false, eval e X.env) :: starEach [e2] X.env := by rfl) (hs2 : starEach [e2] X.env = (false, eval e2 X.env) :: starEach [] X.env := by rfl)
    (hpl : (backTo pos (starEach [e2] X.env)).any (·.1) = false := by rfl) : CI X W (.Tuple elts kk tpos) (.Call (.Name "zip" p) [e, e2] [] pos) (iZip f g) := fun Γ =>
  pi_imp (RZ.pi_zipA (C.gl hg) hm (pa_cons (ha Γ) (pa_cons (pe_any fun x : AV × List Sl => hb x.2) pa_nil hs2) hs) hs hpl) fun σ H Q ⟨G, S, q⟩ => ⟨G, S, (Pst.bind q).imp fun x G1 H1 e1 q1 v S1 hv => ⟨x, G1, S1, (Pst.bind q1).imp fun y G2 H2 e2 q2 u S2 hu => by
    obtain ⟨z, hz, q2⟩ := Pst.ofO q2
    have hv := hv.ext e2
    have q2 : ∀ J, Sta X.K G2 H2 σ y.2 → ItD X.K G2 H2 J z.1 z.2 → Q J H2 := q2 G2 H2 (Ext.rf S2.w)
    rcases zipA_cases hz with ⟨f1, ds, f2, es, hx, hy, rfl⟩ | ⟨f1, ds, f2, es, hx, hy, rfl⟩
    · rw [hx] at hv
      rw [hy] at hu
      obtain ⟨l, xs, rfl, g1, g2⟩ := dn_list hv
      obtain ⟨l2, ys, rfl, g3, g4⟩ := dn_list hu
      exact ⟨l, l2, xs, ys, rfl, .inl ⟨(g1.mono (S2.w.rgl f1)).sq, (g3.mono (S2.w.rgl f2)).sq, q2 _ S2 (itd_zip (g1.mono (rg_and1 G2 f1 f2)) (g2.mono (rg_and1 G2 f1 f2) (TupLe.rf _)) (g3.mono (rg_and2 G2 f1 f2)) (g4.mono (rg_and2 G2 f1 f2) (TupLe.rf _)))⟩⟩
    · rw [hx] at hv
      rw [hy] at hu
      obtain ⟨l, xs, rfl, g1, g2⟩ := dn_tupleH hv
      obtain ⟨l2, ys, rfl, g3, g4⟩ := dn_tupleH hu
      exact ⟨l, l2, xs, ys, rfl, .inr ⟨SqT.of g1, SqT.of g3, q2 _ S2 (itd_zipT g1 (g2.mono (rg_and1 G2 f1 f2) (TupLe.rf _)) g3 (g4.mono (rg_and2 G2 f1 f2) (TupLe.rf _)))⟩⟩⟩⟩
/-! ## range(i, j, -1) -/
def rngDn (hi lo : Int) : List Int := (List.range (hi - lo).toNat).map fun i => hi - (i : Nat)
theorem itd_down {K : PySem.W.Frag} {G : Gh} {H : Hp} {hi lo : Int} : ItD K G H (Itc hi (-1) (hi - lo).toNat) ((rngDn hi lo).map PyData.int) true := by
  refine ⟨fun i G2 H2 hi' e => by simpa [Itc, rngDn] using hi', fun i G2 H2 σ Γ v H3 hi' e S y => ?_, fun G2 H2 e => by simp [Itc, rngDn]; omega⟩
  obtain ⟨rfl, rfl⟩ := y
  have hi' : i < (hi - lo).toNat := by simpa [rngDn] using hi'
  refine ⟨G2, .int (hi - (i : Nat)), by simp [rngDn, hi'], Ext.rf S.w, S, ?_⟩
  have : hi + (i : Nat) * (-1 : Int) = hi - (i : Nat) := by omega
  rw [this]
  exact .int _
def iDown (f g h : DF) : DI := fun Γ => (f Γ).bind fun x => (g x.2).bind fun y => (h y.2).bind fun z => (R.ofO (intA x.1)).bind fun i => (R.ofO (intA y.1)).bind fun j => (R.ofO (intA z.1)).bind fun c => (R.req (decide (c = -1))).bind fun _ => gq (cRng i j) (((rngDn i j).map PyData.int, true), z.2)
theorem ci_down (C : Cf0 X W sc N) (hg : glB sc "range" = true) (hm : X.mg "range" = none) (ha : CE X W e f) (hb : CE X W e2 g) (hc : CE X W e3 h) (hs : starEach [e, e2, e3] X.env = (false, eval e X.env) :: starEach [e2, e3] X.env := by rfl) (hs2 : starEach [e2, e3] X.env = (false, eval e2 X.env) :: starEach [e3] X.env := by rfl) (hs3 : starEach [e3] X.env = (false, eval e3 X.env) :: starEach [] X.env := by rfl)
    (hpl : (backTo pos (starEach [e2, e3] X.env)).any (·.1) = false := by rfl) : CI X W tg (.Call (.Name "range" p) [e, e2, e3] [] pos) (iDown f g h) := fun Γ =>
  pi_imp (pi_range3 (C.gl hg) hm (pa_cons (ha Γ) (pa_cons (pe_any fun x : AV × List Sl => hb x.2) (pa_cons (pe_any fun x : AV × List Sl => hc x.2) pa_nil hs3) hs2) hs) hs hpl) fun σ H Q ⟨G, S, q⟩ => ⟨G, S, (Pst.bind q).imp fun x G1 H1 e1 q1 v S1 hv => ⟨x, G1, S1, (Pst.bind q1).imp fun y G2 H2 e2 q2 u S2 hu => ⟨y, G2, S2, (Pst.bind q2).imp fun z G3 H3 e3 q3 w S3 hw => by
    obtain ⟨i, hi, q3⟩ := Pst.ofO q3
    obtain ⟨j, hj, q3⟩ := Pst.ofO q3
    obtain ⟨c, hc, q3⟩ := Pst.ofO q3
    obtain ⟨h1, q3⟩ := Pst.req q3
    obtain ⟨h2, q4⟩ := Pst.gq S3.w q3
    clear q3
    have h1 := of_decide_eq_true h1
    have h2 := of_decide_eq_true h2
    subst h1
    exact ⟨i, j, -1, (i - j).toNat, by rw [intA_ok hi (hv.ext (e2.tr e3)), intA_ok hj (hu.ext e3), intA_ok hc hw], RgC.neg h2.1 h2.2.1 h2.2.2.1 h2.2.2.2, q4 _ S3 itd_down⟩⟩⟩⟩
end
end PD


set_option Elab.async false
set_option linter.all false
set_option maxRecDepth 100000
set_option maxHeartbeats 4000000
set_option autoImplicit false
namespace PD
open PySem L2
theorem fd_cells (l : Addr) (t s : Int) : valV (fdK l t s) (.inr "cells" : Key) = some (.ref l) := rfl
theorem fd_turn (l : Addr) (t s : Int) : valV (fdK l t s) (.inr "turn" : Key) = some (.int t) := rfl
theorem fd_seed (l : Addr) (t s : Int) : valV (fdK l t s) (.inr "seed" : Key) = some (.int s) := rfl
theorem fd_pcells (l l' : Addr) (t s : Int) : putK (fdK l t s) (.inr "cells" : Key) (.ref l') = fdK l' t s := rfl
theorem fd_pturn (l : Addr) (t s t' : Int) : putK (fdK l t s) (.inr "turn" : Key) (.int t') = fdK l t' s := rfl
theorem fd_pseed (l : Addr) (t s s' : Int) : putK (fdK l t s) (.inr "seed" : Key) (.int s') = fdK l t s' := rfl

theorem ixN0 {n : Nat} (h : 0 < n) : ixN n 0 = some 0 := by
  unfold ixN
  rw [if_pos (Int.le_refl 0), if_pos (by omega)]
  rfl
theorem Sta.feed {K : PySem.W.Frag} {G : Gh} {H : Hp} {σ : St} {Γ : List Sl} {f : Fd} (S : Sta K G H σ Γ) (i : Nat) (io : Bool) (hi : Γ[i]? = some (mkS io (.feed f))) :
    ∃ d l, σ[i]? = some (some (.ref d)) ∧ d ≠ l ∧ H d = some (.dK (fdK l f.2.1 f.2.2)) ∧ H l = some (.lst (f.1.map V.int)) ∧
      (∀ t s, Sta K G (upd H d (.dK (fdK l t s))) σ (Γ.set i (mkS io (.feed (f.1, t, s)))) ∧ Ext G H G (upd H d (.dK (fdK l t s)))) ∧
      (∀ ns : List Int, Sta K G (upd H l (.lst (ns.map V.int))) σ (Γ.set i (mkS io (.feed (ns, f.2)))) ∧ Ext G H G (upd H l (.lst (ns.map V.int)))) ∧
      (∀ l' (ns : List Int), H l' = none → Sta K G (upd (upd H l' (.lst (ns.map V.int))) d (.dK (fdK l' f.2.1 f.2.2))) σ (Γ.set i (mkS io (.feed (ns, f.2)))) ∧ Ext G H G (upd (upd H l' (.lst (ns.map V.int))) d (.dK (fdK l' f.2.1 f.2.2)))) := by
  obtain ⟨A, T⟩ := S
  have hlt : i < Γ.length := (List.getElem?_eq_some_iff.mp hi).1
  have key : ∃ d l, σ[i]? = some (some (.ref d)) ∧ A i = [d, l] ∧ d ≠ l ∧ H d = some (.dK (fdK l f.2.1 f.2.2)) ∧ H l = some (.lst (f.1.map V.int)) ∧
      ∀ (G' : Gh) (H' : Hp) (f' : Fd) (fp' : List Addr), G'.I = G.I → G'.H0 = G.H0 → (Cl.feed f').ok K (RgN G') H' (.ref d) fp' → (∀ p ∈ fp', p ∈ A i ∨ G.H0 p = none) → SlOk K G' H' i σ[i]? fp' (mkS io (.feed f')) := by
    have hs := T.sl i _ hi
    cases io with
    | true =>
      obtain ⟨v, h1, h2, d, l, rfl, h3, h4, h5, h6⟩ := hs
      exact ⟨d, l, h1, h3, h4, h5, h6, fun G' H' f' fp' gi _ ok _ => ⟨_, h1, by rw [gi]; exact h2, ok⟩⟩
    | false =>
      obtain ⟨v, h1, h2, d, l, rfl, h3, h4, h5, h6⟩ := hs
      refine ⟨d, l, h1, h3, h4, h5, h6, fun G' H' f' fp' _ g0 ok hp => ⟨_, h1, fun p hp' => ?_, ok⟩⟩
      rw [g0]
      rcases hp p hp' with q | q
      · exact h2 p q
      · exact q
  obtain ⟨d, l, h1, hA, hne, hd, hl, mk⟩ := key
  have ad := T.al i d (by rw [hA]; simp)
  have al := T.al i l (by rw [hA]; simp)
  refine ⟨d, l, h1, hne, hd, hl, fun t s => ?_, fun ns => ?_, fun l' ns hl' => ?_⟩
  · refine T.step (i := i) (fp' := [d, l]) (grow_mut T.w hd ad.2.1 (fun _ => by simp) (fun _ _ => by simp)) (fun p hp => by rw [hA]; simp at hp; simp [hp]) (fun _ _ => rfl) rfl (fun _ => mk _ _ _ _ rfl rfl ⟨d, l, rfl, rfl, hne, upd_same, by rw [upd_ne (Ne.symm hne)]; exact hl⟩ fun p hp => .inl (by rw [hA]; exact hp)) (fun p hp => ?_)
    simp only [List.mem_cons, List.not_mem_nil, or_false] at hp
    rcases hp with rfl | rfl
    · exact ⟨by rw [upd_same]; simp, ad.2.1, .inl (by rw [hA]; simp)⟩
    · exact ⟨by rw [upd_ne (Ne.symm hne), hl]; simp, al.2.1, .inl (by rw [hA]; simp)⟩
  · refine T.step (i := i) (fp' := [d, l]) (grow_mut T.w hl al.2.1 (fun _ => by simp) (fun _ _ => by simp)) (fun p hp => by rw [hA]; simp at hp; simp [hp]) (fun _ _ => rfl) rfl (fun _ => mk _ _ _ _ rfl rfl ⟨d, l, rfl, rfl, hne, by rw [upd_ne hne]; exact hd, upd_same⟩ fun p hp => .inl (by rw [hA]; exact hp)) (fun p hp => ?_)
    simp only [List.mem_cons, List.not_mem_nil, or_false] at hp
    rcases hp with rfl | rfl
    · exact ⟨by rw [upd_ne hne, hd]; simp, ad.2.1, .inl (by rw [hA]; simp)⟩
    · exact ⟨by rw [upd_same]; simp, al.2.1, .inl (by rw [hA]; simp)⟩
  · obtain ⟨fN, f0, _⟩ := T.w.fresh hl'
    have hdl : d ≠ l' := fun e => by rw [e, hl'] at hd; cases hd
    have g : Grow G H G.N (upd (upd H l' (.lst (ns.map V.int))) d (.dK (fdK l' f.2.1 f.2.2))) [d] := by
      refine ⟨fun a x e hp => ?_, fun a ha => ?_, fun a xs e => ?_, fun _ _ e => e, fun a x e => ⟨?_, .inl e⟩⟩
      · have h2 : a ≠ d := by simpa using hp
        have h3 : a ≠ l' := fun q => by rw [q, hl'] at e; cases e
        rw [upd_ne h2, upd_ne h3]; exact e
      · have : a = d := by simpa using ha
        rw [this, upd_same]; simp
      · have h3 : a ≠ l' := fun q => by rw [q, hl'] at e; cases e
        have h2 : a ≠ d := fun q => by rw [q, hd] at e; cases e
        rw [upd_ne h2, upd_ne h3]; exact e
      · have h2 : a ≠ d := fun q => by rw [q, ad.2.1] at e; cases e
        have h3 : a ≠ l' := fun q => by rw [q, fN] at e; cases e
        rw [upd_ne h2, upd_ne h3]; exact (T.w.new a x e).1
    refine T.step (i := i) (fp' := [d, l']) g (fun p hp => by rw [hA]; simp at hp; simp [hp]) (fun _ _ => rfl) rfl (fun _ => mk _ _ _ _ rfl rfl ⟨d, l', rfl, rfl, hdl, upd_same, by rw [upd_ne (Ne.symm hdl), upd_same]⟩ fun p hp => ?_) (fun p hp => ?_)
    · simp only [List.mem_cons, List.not_mem_nil, or_false] at hp
      rcases hp with rfl | rfl
      · exact .inl (by rw [hA]; simp)
      · exact .inr f0
    · simp only [List.mem_cons, List.not_mem_nil, or_false] at hp
      rcases hp with rfl | rfl
      · exact ⟨by rw [upd_same]; simp, ad.2.1, .inl (by rw [hA]; simp)⟩
      · exact ⟨by rw [upd_ne (Ne.symm hdl), upd_same]; simp, fN, .inr hl'⟩

/-! ## equality of typed data -/
structure EqT {α : Type} [DecidableEq α] (enc : α → PyData) (k : Nat) : Prop where
  lay : ∀ x, (enc x).canLay0 = true
  dep : ∀ x, (enc x).depth ≤ k
  eq : ∀ x y, PyData.eqv (enc x) (enc y) = decide (x = y)
theorem eqt_int : EqT PyData.int 0 := ⟨fun _ => rfl, fun _ => Nat.le_refl _, fun x y => by show (x == y) = _; rfl⟩
theorem eqt_bool : EqT PyData.bool 0 := ⟨fun _ => rfl, fun _ => Nat.le_refl _, fun x y => by cases x <;> cases y <;> rfl⟩
section
variable {α β γ : Type} [DecidableEq α] [DecidableEq β] [DecidableEq γ] {e1 : α → PyData} {e2 : β → PyData} {e3 : γ → PyData} {k k2 k3 : Nat}
theorem EqT.layA (h : EqT e1 k) : ∀ xs : List α, PyData.canLayAll0 (xs.map e1) = true
  | [] => rfl
  | x :: xs => by simp [PyData.canLayAll0, h.lay x, EqT.layA h xs]
theorem EqT.depA (h : EqT e1 k) : ∀ xs : List α, PyData.depthAll (xs.map e1) ≤ k
  | [] => Nat.zero_le _
  | x :: xs => by
    have a := h.dep x
    have b := EqT.depA h xs
    simp only [List.map_cons, PyData.depthAll]
    omega
theorem EqT.eqA (h : EqT e1 k) : ∀ xs ys : List α, PyData.eqvAll (xs.map e1) (ys.map e1) = decide (xs = ys)
  | [], [] => rfl
  | [], y :: ys => by simp [PyData.eqvAll]
  | x :: xs, [] => by simp [PyData.eqvAll]
  | x :: xs, y :: ys => by simp [PyData.eqvAll, h.eq x y, EqT.eqA h xs ys]
theorem eqt_list (h : EqT e1 k) : EqT (fun xs : List α => PyData.list (xs.map e1)) (k + 1) :=
  ⟨fun xs => by simpa [PyData.canLay0] using h.layA xs, fun xs => by simpa [PyData.depth] using h.depA xs, fun xs ys => by simpa [PyData.eqv] using h.eqA xs ys⟩
theorem eqt_tup (h : EqT e1 k) : EqT (fun xs : List α => PyData.tuple (xs.map e1)) (k + 1) :=
  ⟨fun xs => by simpa [PyData.canLay0] using h.layA xs, fun xs => by simpa [PyData.depth] using h.depA xs, fun xs ys => by simpa [PyData.eqv] using h.eqA xs ys⟩
theorem eqt_p2 (h : EqT e1 k) (h2 : EqT e2 k2) : EqT (fun z : α × β => PyData.tuple [e1 z.1, e2 z.2]) (max k k2 + 1) :=
  ⟨fun z => by simp [PyData.canLay0, PyData.canLayAll0, h.lay, h2.lay], fun z => by have a := h.dep z.1; have b := h2.dep z.2; simp [PyData.depth, PyData.depthAll]; omega, fun x y => by
    obtain ⟨x1, x2⟩ := x
    obtain ⟨y1, y2⟩ := y
    simp [PyData.eqv, PyData.eqvAll, h.eq, h2.eq]⟩
theorem eqt_p3 (h : EqT e1 k) (h2 : EqT e2 k2) (h3 : EqT e3 k3) : EqT (fun z : α × β × γ => PyData.tuple [e1 z.1, e2 z.2.1, e3 z.2.2]) (max k (max k2 k3) + 1) :=
  ⟨fun z => by simp [PyData.canLay0, PyData.canLayAll0, h.lay, h2.lay, h3.lay], fun z => by have a := h.dep z.1; have b := h2.dep z.2.1; have c := h3.dep z.2.2; simp [PyData.depth, PyData.depthAll]; omega, fun x y => by
    obtain ⟨x1, x2, x3⟩ := x
    obtain ⟨y1, y2, y3⟩ := y
    simp [PyData.eqv, PyData.eqvAll, h.eq, h2.eq, h3.eq]⟩
theorem EqT.sh (h : EqT e1 k) (hk : k ≤ 64) (x : α) : SeqAt.shaped (e1 x) = true := by
  unfold SeqAt.shaped
  rw [h.lay x, Bool.true_and]
  exact decide_eq_true (Nat.le_trans (h.dep x) hk)
end
def cellF (Γ : List Sl) (i : Nat) : Option (Bool × Fd) := match Γ[i]? with
  | some (.own (.feed f)) => some (false, f)
  | some (.io (.feed f)) => some (true, f)
  | _ => none
theorem cellF_ok {Γ : List Sl} {i : Nat} {z : Bool × Fd} (h : cellF Γ i = some z) : Γ[i]? = some (mkS z.1 (.feed z.2)) := by
  unfold cellF at h
  split at h
  · cases h; exact ‹_›
  · cases h; exact ‹_›
  · cases h
section
variable {X : Cx} {W : WX} {sc : Scope} {N : List Str} {e : Expr} {pos p p2 p3 : Pos} {x : Str} {fe : DF}
theorem pe_nm (C : Cf0 X W sc N) {i : Nat} {x : Str} {pos : Pos} (hN : N[i]? = some x) (hv : visB sc x = true) (hd : (x == ("__debug__" : Str)) = false := by decide +kernel) (hcd : (x == ("__classdict__" : Str)) = false := by decide +kernel) : PE X (.Name x pos) (tVar i) :=
  pe_var (i := i) (by rw [C.hN]; exact hN) (by rw [C.hsc]; exact vis_of hv) hd hcd
theorem Pst.ofOv {G : Gh} {H : Hp} {σ : St} {α τ : Type} {o : Option α} {k : α → R τ} {P : τ → Gh → Hp → Prop} (h : Pst X W G H σ ((R.ofO o).bind k) P) : ∃ x, o = some x ∧ Pst X W G H σ (k x) P := Pst.ofO h
/-- feed['turn'], feed['seed'] -/
def dFdT (i : Nat) : DF := fun Γ => (R.ofO (cellF Γ i)).bind fun z => .val (.d true (.int z.2.2.1), Γ)
def dFdS (i : Nat) : DF := fun Γ => (R.ofO (cellF Γ i)).bind fun z => .val (.d true (.int z.2.2.2), Γ)
def dFd0 (i : Nat) : DF := fun Γ => (R.ofO (cellF Γ i)).bind fun z => (R.ofO (atI z.2.1 0)).bind fun n => .val (.d true (.int n), Γ)
def dFdN (i : Nat) : DF := fun Γ => (R.ofO (cellF Γ i)).bind fun z => .val (.d true (.bool (!decide (z.2.1 = ([] : List Int)))), Γ)
theorem ce_fdT (C : Cf0 X W sc N) {j : Nat} (i : Nat) (hN : N[i]? = some x) (hv : visB sc x = true) (hs : NoSl (.Constant (.str "turn") j p2) := by exact fun _ _ => rfl) (hd : (x == ("__debug__" : Str)) = false := by decide +kernel) (hcd : (x == ("__classdict__" : Str)) = false := by decide +kernel) : CE X W (.Subscript (.Name x p) (.Constant (.str "turn") j p2) pos) (dFdT i) := fun Γ =>
  pe_imp (pe_dget (u1 C) (pe_nm C hN hv hd hcd) (pe_str (x := "turn")) hs) fun σ H Q ⟨G, S, q⟩ => by
    obtain ⟨z, hz, q⟩ := Pst.ofO q
    obtain ⟨d, l, h1, h2, h3, h4, _⟩ := S.feed i z.1 (cellF_ok hz)
    exact ⟨.ref d, h1, d, .int z.2.2.1, rfl, .inl ⟨_, .inr "turn", .inl h3, rfl, rfl⟩, q G H (Ext.rf S.w) _ S (.int _)⟩
theorem ce_fdS (C : Cf0 X W sc N) {j : Nat} (i : Nat) (hN : N[i]? = some x) (hv : visB sc x = true) (hs : NoSl (.Constant (.str "seed") j p2) := by exact fun _ _ => rfl) (hd : (x == ("__debug__" : Str)) = false := by decide +kernel) (hcd : (x == ("__classdict__" : Str)) = false := by decide +kernel) : CE X W (.Subscript (.Name x p) (.Constant (.str "seed") j p2) pos) (dFdS i) := fun Γ =>
  pe_imp (pe_dget (u1 C) (pe_nm C hN hv hd hcd) (pe_str (x := "seed")) hs) fun σ H Q ⟨G, S, q⟩ => by
    obtain ⟨z, hz, q⟩ := Pst.ofO q
    obtain ⟨d, l, h1, h2, h3, h4, _⟩ := S.feed i z.1 (cellF_ok hz)
    exact ⟨.ref d, h1, d, .int z.2.2.2, rfl, .inl ⟨_, .inr "seed", .inl h3, rfl, rfl⟩, q G H (Ext.rf S.w) _ S (.int _)⟩
theorem ce_fd0 (C : Cf0 X W sc N) {j j2 : Nat} (i : Nat) (hN : N[i]? = some x) (hv : visB sc x = true) (hs : NoSl (.Constant (.str "cells") j p2) := by exact fun _ _ => rfl) (hs2 : PlainIx (.Constant (.int 0) j2 p3) := by exact fun _ _ => rfl) (hd : (x == ("__debug__" : Str)) = false := by decide +kernel) (hcd : (x == ("__classdict__" : Str)) = false := by decide +kernel) {q : Pos} :
    CE X W (.Subscript (.Subscript (.Name x p) (.Constant (.str "cells") j p2) q) (.Constant (.int 0) j2 p3) pos) (dFd0 i) := fun Γ =>
  pe_imp (pe_ix ix_list (pe_dget (u1 C) (pe_nm C hN hv hd hcd) (pe_str (x := "cells")) hs) pe_int hs2) fun σ H Q ⟨G, S, q⟩ => by
    obtain ⟨z, hz, q⟩ := Pst.ofO q
    obtain ⟨n, hc, q⟩ := Pst.ofO q
    obtain ⟨d, l, h1, h2, h3, h4, _⟩ := S.feed i z.1 (cellF_ok hz)
    refine ⟨.ref d, h1, d, .ref l, rfl, .inl ⟨_, .inr "cells", .inl h3, rfl, rfl⟩, l, _, 0, .int n, rfl, rfl, SqL.of h4, ?_, q G H (Ext.rf S.w) _ S (.int _)⟩
    have := atI_map (f := V.int) (xs := z.2.1) (i := 0)
    rw [this, hc]
    rfl
theorem ce_fdN (C : Cf0 X W sc N) {j : Nat} (i : Nat) (hN : N[i]? = some x) (hv : visB sc x = true) (hs : NoSl (.Constant (.str "cells") j p2) := by exact fun _ _ => rfl) (hm : behindInMarks .NotEq (.List [] p3) = false := by first | exact nobehind _ (by decide) (by decide) | rfl) (hd : (x == ("__debug__" : Str)) = false := by decide +kernel) (hcd : (x == ("__classdict__" : Str)) = false := by decide +kernel) {q : Pos} :
    CE X W (.Compare (.Subscript (.Name x p) (.Constant (.str "cells") j p2) q) [.NotEq] [.List [] p3] pos) (dFdN i) := fun Γ =>
  pe_imp (pe_cmpR (op_neD C.hu) (pe_dget (u1 C) (pe_nm C hN hv hd hcd) (pe_str (x := "cells")) hs) (pe_lst pa_nil) hm) fun σ H Q ⟨G, S, q⟩ => by
    obtain ⟨z, hz, q⟩ := Pst.ofO q
    obtain ⟨d, l, h1, h2, h3, h4, _⟩ := S.feed i z.1 (cellF_ok hz)
    refine ⟨.ref d, h1, d, .ref l, rfl, .inl ⟨_, .inr "cells", .inl h3, rfl, rfl⟩, Nat.zero_le _, fun a ha => ?_⟩
    have hla : l ≠ a := fun z => by rw [z, ha] at h4; cases h4
    obtain ⟨S2, e2⟩ := Sta.grow S (grow_own (o := .lst []) S.w ha)
    refine ⟨.list (z.2.1.map PyData.int), .list [], .lst (SqL.of (by rw [upd_ne hla]; exact h4)) ((ints_dna (G := RgH _) z.2.1).dp (eqt_int.layA _)), .lst (SqL.of upd_same) .nil, (eqt_list eqt_int).sh (by decide) z.2.1, (eqt_list eqt_int).sh (by decide) [], ?_⟩
    have this : PyData.eqv (.list (z.2.1.map PyData.int)) (.list []) = decide (z.2.1 = []) := (eqt_list eqt_int).eq z.2.1 []
    rw [this]
    exact q _ _ e2 _ S2 (.bl _)
/-- stores -/
def bFdT (i : Nat) (fe : DF) : DS := fun Γ => (fe Γ).bind fun y => (R.ofO (intA y.1)).bind fun n => (R.ofO (cellF y.2 i)).bind fun z => .val (.nx, y.2.set i (mkS z.1 (.feed (z.2.1, n, z.2.2.2))))
def bFdS (i : Nat) (fe : DF) : DS := fun Γ => (fe Γ).bind fun y => (R.ofO (intA y.1)).bind fun n => (R.ofO (cellF y.2 i)).bind fun z => .val (.nx, y.2.set i (mkS z.1 (.feed (z.2.1, z.2.2.1, n))))
def bFd0 (i : Nat) (fe : DF) : DS := fun Γ => (fe Γ).bind fun y => (R.ofO (intA y.1)).bind fun n => (R.ofO (cellF y.2 i)).bind fun z => (R.req (!decide (z.2.1 = ([] : List Int)))).bind fun _ => .val (.nx, y.2.set i (mkS z.1 (.feed (z.2.1.set 0 n, z.2.2))))
def bFdC (i : Nat) : DS := fun Γ => (R.ofO (cellF Γ i)).bind fun z => .val (.nx, Γ.set i (mkS z.1 (.feed (z.2.1.drop 1, z.2.2))))
theorem c1_fdT (C : Cf0 X W sc N) {j : Nat} (i : Nat) (hN : N[i]? = some x) (hv : visB sc x = true) (he : CE X W e fe) (hs : swapsWith e (some (.Subscript (.Name x p) (.Constant (.str "turn") j p2) p3)) pos.line X.env = pure false := by rfl) (hd : (x == ("__debug__" : Str)) = false := by decide +kernel) (hcd : (x == ("__classdict__" : Str)) = false := by decide +kernel) :
    C1 X W (.Assign [.Subscript (.Name x p) (.Constant (.str "turn") j p2) p3] e pos) (bFdT i fe) := fun Γ =>
  ps_imp (ps_dput (u1 C) (pe_nm C hN hv hd hcd) (pe_str (x := "turn")) (he Γ) hs) fun D σ H ⟨G, S, q⟩ => ⟨G, S, (Pst.bind q).imp fun y G1 H1 e1 q1 v S1 hv => by
    obtain ⟨n, hn, q1⟩ := Pst.ofO q1
    obtain ⟨z, hz, q1⟩ := Pst.ofO q1
    obtain ⟨d, l, h1, h2, h3, h4, h5, _⟩ := S1.feed i z.1 (cellF_ok hz)
    obtain ⟨S3, e3⟩ := h5 n z.2.2.2
    have hv := intA_ok hn hv
    subst hv
    exact ⟨.ref d, h1, d, _, rfl, .inl ⟨_, .inr "turn", h3, rfl, (by decide : 3 < sizeLine), rfl⟩, q1 G1 _ e3 σ S3⟩⟩
theorem c1_fdS (C : Cf0 X W sc N) {j : Nat} (i : Nat) (hN : N[i]? = some x) (hv : visB sc x = true) (he : CE X W e fe) (hs : swapsWith e (some (.Subscript (.Name x p) (.Constant (.str "seed") j p2) p3)) pos.line X.env = pure false := by rfl) (hd : (x == ("__debug__" : Str)) = false := by decide +kernel) (hcd : (x == ("__classdict__" : Str)) = false := by decide +kernel) :
    C1 X W (.Assign [.Subscript (.Name x p) (.Constant (.str "seed") j p2) p3] e pos) (bFdS i fe) := fun Γ =>
  ps_imp (ps_dput (u1 C) (pe_nm C hN hv hd hcd) (pe_str (x := "seed")) (he Γ) hs) fun D σ H ⟨G, S, q⟩ => ⟨G, S, (Pst.bind q).imp fun y G1 H1 e1 q1 v S1 hv => by
    obtain ⟨n, hn, q1⟩ := Pst.ofO q1
    obtain ⟨z, hz, q1⟩ := Pst.ofO q1
    obtain ⟨d, l, h1, h2, h3, h4, h5, _⟩ := S1.feed i z.1 (cellF_ok hz)
    obtain ⟨S3, e3⟩ := h5 z.2.2.1 n
    have hv := intA_ok hn hv
    subst hv
    exact ⟨.ref d, h1, d, _, rfl, .inl ⟨_, .inr "seed", h3, rfl, (by decide : 3 < sizeLine), rfl⟩, q1 G1 _ e3 σ S3⟩⟩
theorem c1_fd0 (C : Cf0 X W sc N) {j j2 : Nat} {q tpos : Pos} (i : Nat) (hN : N[i]? = some x) (hv : visB sc x = true) (he : CE X W e fe) (hs0 : NoSl (.Constant (.str "cells") j p2) := by exact fun _ _ => rfl) (hd : (x == ("__debug__" : Str)) = false := by decide +kernel) (hcd : (x == ("__classdict__" : Str)) = false := by decide +kernel)
    (has : ∀ v, assign (.Subscript (.Subscript (.Name x p) (.Constant (.str "cells") j p2) q) (.Constant (.int 0) j2 p3) tpos) X.env v = (do
      let ov ← holding [v] (eval (.Subscript (.Name x p) (.Constant (.str "cells") j p2) q) X.env)
      let iv ← holding [v, ov] (eval (.Constant (.int 0) j2 p3) X.env)
      standAt tpos
      holding [v, ov, iv] (setItem ov iv v)
      release [v, ov, iv] []) := by intro _; rfl)
    (hs : swapsWithSole [.Subscript (.Subscript (.Name x p) (.Constant (.str "cells") j p2) q) (.Constant (.int 0) j2 p3) tpos] e pos.line X.env = pure false := by rfl) (hw : swappedStores [.Subscript (.Subscript (.Name x p) (.Constant (.str "cells") j p2) q) (.Constant (.int 0) j2 p3) tpos] e X.env = pure none := by rfl) (h1 : (assignEach [.Subscript (.Subscript (.Name x p) (.Constant (.str "cells") j p2) q) (.Constant (.int 0) j2 p3) tpos] X.env).map (·.2) = [assign (.Subscript (.Subscript (.Name x p) (.Constant (.str "cells") j p2) q) (.Constant (.int 0) j2 p3) tpos) X.env] := by rfl) :
    C1 X W (.Assign [.Subscript (.Subscript (.Name x p) (.Constant (.str "cells") j p2) q) (.Constant (.int 0) j2 p3) tpos] e pos) (bFd0 i fe) := fun Γ =>
  ps_imp (ps_asg (he Γ) (pg_sub (pe_dget (u1 C) (pe_nm C hN hv hd hcd) (pe_str (x := "cells")) hs0) pe_int set_list has) hs hw h1) fun D σ H ⟨G, S, q⟩ => ⟨G, S, (Pst.bind q).imp fun y G1 H1 e1 q1 v S1 hv => by
    obtain ⟨n, hn, q1⟩ := Pst.ofO q1
    obtain ⟨z, hz, q1⟩ := Pst.ofO q1
    obtain ⟨hne, q1⟩ := Pst.req q1
    obtain ⟨d, l, h1, h2, h3, h4, _, h5, _⟩ := S1.feed i z.1 (cellF_ok hz)
    obtain ⟨S3, e3⟩ := h5 (z.2.1.set 0 n)
    have hv := intA_ok hn hv
    subst hv
    have hlen : ixN (z.2.1.map V.int).length 0 = some 0 := by
      cases hc : z.2.1 with
      | nil => rw [hc] at hne; simp at hne
      | cons a as => exact ixN0 (by simp)
    rw [List.map_set] at S3 e3
    exact ⟨.ref d, h1, d, .ref l, rfl, .inl ⟨_, .inr "cells", .inl h3, rfl, rfl⟩, l, _, 0, 0, rfl, rfl, h4, hlen, q1 G1 _ e3 σ S3⟩⟩
theorem cut1 (xs : List Int) : cutV (xs.map V.int) (some 1) none = (xs.drop 1).map V.int := by
  unfold cutV
  rw [HT.sIx_none]
  have : HT.sIx (xs.map V.int).length 0 (some 1) = min 1 (xs.map V.int).length := HT.sIx_nat _ _ 1
  rw [this]
  cases xs with
  | nil => rfl
  | cons x xs =>
    have e : (List.map V.int (x :: xs)).length = xs.length + 1 := by simp
    rw [e, Nat.min_eq_left (by omega)]
    show List.take (xs.length + 1 - 1) (List.map V.int xs) = List.map V.int xs
    have e2 : xs.length + 1 - 1 = (List.map V.int xs).length := by simp
    rw [e2, List.take_length]
theorem c1_fdC (C : Cf0 X W sc N) {j j2 j3 : Nat} {p1 p4 p5 p6 p7 : Pos} (i : Nat) (hN : N[i]? = some x) (hv : visB sc x = true) (hs0 : NoSl (.Constant (.str "cells") j2 p4) := by exact fun _ _ => rfl) (hd : (x == ("__debug__" : Str)) = false := by decide +kernel) (hcd : (x == ("__classdict__" : Str)) = false := by decide +kernel) {q : Pos}
    (hs : swapsWith (.Subscript (.Subscript (.Name x p1) (.Constant (.str "cells") j2 p4) p5) (.Slice (some (.Constant (.int 1) j3 p6)) none none p3) p7) (some (.Subscript (.Name x p) (.Constant (.str "cells") j p2) q)) pos.line X.env = pure false := by rfl) :
    C1 X W (.Assign [.Subscript (.Name x p) (.Constant (.str "cells") j p2) q] (.Subscript (.Subscript (.Name x p1) (.Constant (.str "cells") j2 p4) p5) (.Slice (some (.Constant (.int 1) j3 p6)) none none p3) p7) pos) (bFdC i) := fun Γ =>
  ps_imp (ps_dput (u1 C) (pe_nm C hN hv hd hcd) (pe_str (x := "cells")) (pe_slice sl_list (pe_dget (u1 C) (pe_nm C hN hv hd hcd) (pe_str (x := "cells")) hs0) (po_some pe_int) po_none) hs) fun D σ H ⟨G, S, q⟩ => by
    obtain ⟨z, hz, q⟩ := Pst.ofO q
    obtain ⟨d, l, h1, h2, h3, h4, _, _, h5⟩ := S.feed i z.1 (cellF_ok hz)
    refine ⟨.ref d, h1, d, .ref l, rfl, .inl ⟨_, .inr "cells", .inl h3, rfl, rfl⟩, 1, rfl, l, _, rfl, SqL.of h4, fun a ha => ⟨.ref d, h1, ?_⟩⟩
    obtain ⟨S3, e3⟩ := h5 a (z.2.1.drop 1) ha
    have hda : d ≠ a := fun z => by rw [z, ha] at h3; cases h3
    refine ⟨d, _, rfl, .inl ⟨fdK l z.2.2.1 z.2.2.2, .inr "cells", by rw [upd_ne hda]; exact h3, rfl, (by decide : 3 < sizeLine), rfl⟩, ?_⟩
    rw [cut1, fd_pcells]
    exact q G _ e3 σ S3
end
end PD


set_option Elab.async false
set_option linter.all false
set_option maxRecDepth 100000
set_option maxHeartbeats 4000000
set_option autoImplicit false
namespace PD
open PySem L2
def intsS : Option Sl → Option (List Int)
  | some (.dat _ (.list ds)) => intsOf ds
  | _ => none
section
variable {X : Cx} {W : WX} {sc : Scope} {N : List Str} {pos : Pos} {x : Str}
theorem cut_map {α β : Type} (f : α → β) (xs : List α) (lo hi : Option Int) : (cutD xs lo hi).map f = cutD (xs.map f) lo hi := by
  unfold cutD
  rw [List.map_take, List.map_drop, List.length_map]
/-- {'cells': list(x[:63]), 'turn': 0, 'seed': 0} -/
def nFeed (i : Nat) : DC := fun Γ => (R.ofO (intsS Γ[i]?)).bind fun ns => .val (.feed (cutD ns none (some 63), 0, 0), Γ)
theorem cc_feed (C : Cf0 X W sc N) (i : Nat) {p1 p2 p3 p4 p5 p6 p7 p8 p9 q1 q2 : Pos} {j1 j2 j3 j4 j5 j6 : Nat} (hN : N[i]? = some x) (hv : visB sc x = true) (hg : glB sc "list" = true) (hm : X.mg "list" = none) (hd : (x == ("__debug__" : Str)) = false := by decide +kernel) (hcd : (x == ("__classdict__" : Str)) = false := by decide +kernel)
    (hst : starEach [.Subscript (.Name x p5) (.Slice none (some (.Constant (.int 63) j4 p6)) none p7) p8] X.env = (false, eval (.Subscript (.Name x p5) (.Slice none (some (.Constant (.int 63) j4 p6)) none p7) p8) X.env) :: starEach [] X.env := by rfl) :
    CC X W (.Dict [some (.Constant (.str "cells") j1 p1), some (.Constant (.str "turn") j2 p2), some (.Constant (.str "seed") j3 p3)] [.Call (.Name "list" p4) [.Subscript (.Name x p5) (.Slice none (some (.Constant (.int 63) j4 p6)) none p7) p8] [] p9, .Constant (.int 0) j5 q1, .Constant (.int 0) j6 q2] pos) (nFeed i) := fun Γ =>
  pe_imp (pe_disp (pps_cons pe_str (pe_callTy call_list_of (C.gl hg) hm PyProof.Rows.boot_list (pa_cons (pe_slice sl_list (pe_nm C hN hv hd hcd) po_none (po_some pe_int)) pa_nil hst) (by decide +kernel) (by decide +kernel) hst (by rfl)) (pps_cons pe_str pe_int (pps_cons pe_str pe_int pps_nil))) rfl rfl (by simp) (by simp)) fun σ H Q ⟨G, S, q0⟩ => by
    obtain ⟨ns, hns, q0⟩ := Pst.ofO q0
    have hs : ∃ fr ds, Γ[i]? = some (.dat fr (.list ds)) ∧ intsOf ds = some ns := by
      unfold intsS at hns
      split at hns
      · exact ⟨_, _, ‹_›, hns⟩
      · cases hns
    obtain ⟨fr, ds, hs, hi⟩ := hs
    have hds := intsOf_eq hi
    subst hds
    obtain ⟨A, T⟩ := id S
    obtain ⟨_, v, hv1, hv2⟩ := T.sl i _ hs
    obtain ⟨l, xs, rfl, g1, g2⟩ := dn_list hv2
    rw [dna_ints g2] at g1
    have g1 := (g1.mono (S.w.rgl fr)).sq
    intro p hp
    refine ⟨.ref l, hv1, 63, rfl, l, _, rfl, (same_upd hp).seq g1, fun q hq0 => ?_⟩
    have hcut : cutV (ns.map V.int) none (some 63) = (cutD ns none (some 63)).map V.int := (cut_map V.int ns none (some 63)).symm
    rw [hcut]
    generalize cutD ns none (some 63) = ms at q0 ⊢
    have hpq : p ≠ q := fun e => by rw [e, upd_same] at hq0; cases hq0
    have hq1 : H q = none := by rw [← hq0, upd_ne (Ne.symm hpq)]
    refine ⟨q, _, rfl, .inl (SqL.of upd_same), fun l' hl' => ?_⟩
    have hpl : p ≠ l' := fun e => by rw [e, upd_ne (e ▸ hpq), ← e, upd_same] at hl'; cases hl'
    have hql : q ≠ l' := fun e => by rw [e, upd_same] at hl'; cases hl'
    refine ⟨by rw [upd_ne hpl, upd_ne hpq, upd_same], fdK l' 0 0, rfl, (by decide : 3 ≤ 15), ?_⟩
    have hl1 : H l' = none := by rw [← hl', upd_ne (Ne.symm hql), upd_ne (Ne.symm hpl)]
    obtain ⟨S1, e1⟩ := S.grow (grow_own (o := .lst (ms.map V.int)) S.w hq1)
    have hl2 : upd H q (.lst (ms.map V.int)) l' = none := by rw [upd_ne (Ne.symm hql)]; exact hl1
    have hp2 : upd H q (.lst (ms.map V.int)) p = none := by rw [upd_ne hpq]; exact hp
    have nc : NewC X.K (rg G true) (upd H q (.lst (ms.map V.int))) (.feed (ms, 0, 0)) (.ref p) (upd (upd (upd H q (.lst (ms.map V.int))) l' (.lst (ms.map V.int))) p (.dK (fdK l' 0 0))) := by
      refine ⟨[p, l'], fun a ha => ?_, fun a ha => ?_, p, l', rfl, rfl, hpl, upd_same, by rw [upd_ne (Ne.symm hpl), upd_same]⟩
      · simp only [List.mem_cons, List.not_mem_nil, or_false, not_or] at ha
        rw [upd_ne ha.1, upd_ne ha.2]
      · simp only [List.mem_cons, List.not_mem_nil, or_false] at ha
        rcases ha with rfl | rfl
        · exact ⟨hp2, by rw [upd_same]; simp⟩
        · exact ⟨hl2, by rw [upd_ne (Ne.symm hpl), upd_same]; simp⟩
    have e : upd (upd (upd (upd H p (.dK [])) q (.lst (ms.map V.int))) l' (.lst (ms.map V.int))) p (.dK (mergeK [] (fdK l' 0 0))) = upd (upd (upd H q (.lst (ms.map V.int))) l' (.lst (ms.map V.int))) p (.dK (fdK l' 0 0)) := by
      funext z
      by_cases h1 : z = p
      · subst h1; rw [upd_same, upd_same]; rfl
      · rw [upd_ne h1, upd_ne h1]
        by_cases h2 : z = l'
        · subst h2; rw [upd_same, upd_same]
        · rw [upd_ne h2, upd_ne h2]
          by_cases h3 : z = q
          · subst h3; rw [upd_same, upd_same]
          · rw [upd_ne h3, upd_ne h3, upd_ne h1]
    rw [e]
    exact q0 G _ e1 _ _ S1 nc
end
end PD


set_option Elab.async false
set_option linter.all false
set_option maxRecDepth 100000
set_option maxHeartbeats 4000000
set_option autoImplicit false
namespace PD
open PySem L2
/-! ## a def that keeps its promise, by its name -/
def Gv (P : Program) (w : World) (K : PySem.W.Frag) (mg : Str → Option Value) (base : Heap) (k : Nat) (x : Str) (dvs : List V) (sp : Sp) : Prop :=
  ∃ (f : Addr) (fd : FuncData) (ps : List Str) (ds : List Value), FnOk P w K mg base (L2.CX P w) k f fd ps sp ∧ mg x = some (.ref f) ∧ PySem.W.keepIn K (.ref f) = true ∧ Binds K fd ps ds ∧ Vals dvs ds
theorem Gv.clee {P : Program} {w : World} {K : PySem.W.Frag} {mg : Str → Option Value} {base : Heap} {k k' : Nat} {x : Str} {dvs : List V} {sp : Sp} {X : Cx} {W : WX} {scope : Scope} {N : List Str} (g : Gv P w K mg base k x dvs sp) (h : Here X W P w K mg base scope N k') (hk : k ≤ k') : Clee X x dvs sp := by
  obtain ⟨f, fd, ps, ds, h1, h2, h3, h4, h5⟩ := g
  refine ⟨k, f, fd, ps, ds, ?_, h.room.mono hk, ?_, ?_, ?_, h5⟩
  · rw [h.prog, h.w, h.K, h.mg, h.base]; exact h1
  · rw [h.mg]; exact h2
  · rw [h.K]; exact h3
  · rw [h.K]; exact h4
theorem Gv.of {P : Program} {w : World} {K : PySem.W.Frag} {mg : Str → Option Value} {base : Heap} {k : Nat} {x x' qual : Str} {params : Arguments} {body : List Stmt} {scope : Scope} {dvs : List V} {kws : List (Str × V)} {f : Addr} {fd : FuncData} {ps : List Str} {dv : List V} {ds : List Value} {sp : Sp}
    (F : FunD K x qual params body scope dvs kws f fd) (hm : mg x' = some (.ref f)) (ok : FnOk P w K mg base (L2.CX P w) k f fd ps sp) (b : Binds K fd ps ds) (hv : Vals dv ds) : Gv P w K mg base k x' dv sp := ⟨f, fd, ps, ds, ok, hm, F.kp, b, hv⟩

section
variable {X : Cx} {W : WX} {sc : Scope} {N : List Str} {a b c e : Expr} {es : List Expr} {pos p : Pos} {Γ : List Sl}
theorem kbinds1 {K : PySem.W.Frag} {x qual : Str} {params : Arguments} {body : List Stmt} {scope : Scope} {dvs : List V} {kws : List (Str × V)} {f : Addr} {fd : FuncData} {ps : List Str} (F : FunD K x qual params body scope dvs kws f fd) (n j : Nat) (ks : List Str) (hd : dvs ≠ [])
    (h : ∀ (T : Addr) (kV doc pm : Value) (an : Option Addr) (cdv ct : Value) (us its ws : List Value), us.length = n → its.length = dvs.length → ws.length = ks.length →
      ∃ k, bindArgs (PySem.W.fnOf x qual params body scope (.ref T) kV doc pm an cdv ct) ⟨us, ks.zip ws⟩ = seqItems? (.ref T) >>= k ∧ k (some its.toArray) = pure (ps.zip (us ++ ws ++ its.drop j))) :
    ∃ its : List Value, KBn K fd ps n ks (fun us ws => us ++ ws ++ its) (fun vs zs => vs ++ zs ++ dvs.drop j) := by
  obtain ⟨oc, od, dV, kV, doc, pm, an, cdv, ct, osl, rfl, lk, hcd, hD, hK⟩ := F.ex
  rcases hD with ⟨e, _⟩ | ⟨_, T, o, its, m, rfl, lT, oT, rT⟩
  · exact absurd e hd
  · refine ⟨its.drop j, ⟨fun s us ws X l1 l2 => ?_, fun r1 r2 => (r1.append r2).append (rT.drop j)⟩⟩
    obtain ⟨k, e1, e2⟩ := h T kV doc pm an cdv ct us its ws l1 rT.length.symm l2
    refine BindsTo.of_looks fun M => ?_
    rw [e1]
    exact looks_items X lT oT (.of_pure e2)
def GvK (P : Program) (w : World) (K : PySem.W.Frag) (mg : Str → Option Value) (base : Heap) (k : Nat) (x : Str) (n : Nat) (ks : List Str) (dvs : List V) (sp : Sp) : Prop :=
  ∃ (f : Addr) (fd : FuncData) (ps : List Str) (its : List Value), FnOk P w K mg base (L2.CX P w) k f fd ps sp ∧ mg x = some (.ref f) ∧ PySem.W.keepIn K (.ref f) = true ∧ KBn K fd ps n ks (fun us ws => us ++ ws ++ its) (fun vs zs => vs ++ zs ++ dvs)
def CleeK (X : Cx) (x : Str) (n : Nat) (ks : List Str) (dvs : List V) (sp : Sp) : Prop :=
  ∃ (k : Nat) (f : Addr) (fd : FuncData) (ps : List Str) (its : List Value), FnOk X.prog X.w X.K X.mg X.base (L2.CX X.prog X.w) k f fd ps sp ∧ Room k X.A ∧ X.mg x = some (.ref f) ∧ PySem.W.keepIn X.K (.ref f) = true ∧ KBn X.K fd ps n ks (fun us ws => us ++ ws ++ its) (fun vs zs => vs ++ zs ++ dvs)
theorem GvK.clee {P : Program} {w : World} {K : PySem.W.Frag} {mg : Str → Option Value} {base : Heap} {k k' : Nat} {x : Str} {n : Nat} {ks : List Str} {dvs : List V} {sp : Sp} {scope : Scope} (g : GvK P w K mg base k x n ks dvs sp) (h : Here X W P w K mg base scope N k') (hk : k ≤ k') : CleeK X x n ks dvs sp := by
  obtain ⟨f, fd, ps, its, g1, g2, g3, g4⟩ := g
  refine ⟨k, f, fd, ps, its, ?_, h.room.mono hk, ?_, ?_, ?_⟩
  · rw [h.prog, h.w, h.K, h.mg, h.base]; exact g1
  · rw [h.mg]; exact g2
  · rw [h.K]; exact g3
  · rw [h.K]; exact g4
theorem CleeK.blk {x : Str} {n : Nat} {ks : List Str} {dvs : List V} {sp : Sp} (h : CleeK X x n ks dvs sp) {s : Shared} {H : Hp} {scope : Scope} {ce : Env} {fp : List Addr} : CleeK (X.blk s H scope ce fp) x n ks dvs sp := h

theorem Gv.u {P : Program} {w : World} {K : PySem.W.Frag} {mg : Str → Option Value} {base : Heap} {k k' : Nat} {x : Str} {dvs : List V} {m : List Ar → R (Rs × List Sl)} {scope : Scope} (g : Gv P w K mg base k x dvs (spU K mg m)) (h : Here X W P w K mg base scope N k') (hk : k ≤ k') : Clee X x dvs (spU X.K X.mg m) := by
  have := g.clee h hk
  rw [h.K, h.mg]
  exact this
theorem GvK.u {P : Program} {w : World} {K : PySem.W.Frag} {mg : Str → Option Value} {base : Heap} {k k' : Nat} {x : Str} {n : Nat} {ks : List Str} {dvs : List V} {m : List Ar → R (Rs × List Sl)} {scope : Scope} (g : GvK P w K mg base k x n ks dvs (spU K mg m)) (h : Here X W P w K mg base scope N k') (hk : k ≤ k') : CleeK X x n ks dvs (spU X.K X.mg m) := by
  have := g.clee h hk
  rw [h.K, h.mg]
  exact this
theorem cs_bad {ss : List Stmt} : CS X W ss bBad := fun Γ => ⟨fun pins s σ H D I ⟨G, S, p⟩ => p.elim⟩
/-- keyword arguments -/
def CK (X : Cx) (W : WX) (kws : List Keyword) (f : DA) : Prop := ∀ Γ, PK X kws (rdA X W Γ (f Γ) Prod.fst Prod.snd)
theorem pk_imp {kws : List Keyword} {t t' : TA} (h : PK X kws t) (k : ∀ σ H Q, t' σ H Q → t σ H Q) : PK X kws t' := ⟨fun pos pins s σ H Q I q => h.run pos pins s σ H Q I (k σ H Q q)⟩
theorem pk_any {kws : List Keyword} {α : Type} {t : α → TA} (h : ∀ x, PK X kws (t x)) : PK X kws (fun σ H Q => ∃ x, t x σ H Q) := ⟨fun pos pins s σ H Q I ⟨x, q⟩ => (h x).run pos pins s σ H Q I q⟩
theorem ck_nil : CK X W [] dA0 := fun Γ => pk_imp (pk_nil : PK X [] tNil) fun σ H Q ⟨G, S, q⟩ => q G H (Ext.rf S.w) [] S .nil
theorem ck_cons {nm : Option Str} {kpos : Pos} {kws : List Keyword} {f : DF} {k : DA} (ha : CE X W e f) (hk : CK X W kws k) : CK X W (⟨nm, e, kpos⟩ :: kws) (dAc f k) := fun Γ =>
  pk_imp (pk_cons (nm := nm) (kpos := kpos) (ha Γ) (pk_any fun x : AV × List Sl => hk x.2)) fun σ H Q ⟨G, S, q⟩ => ⟨G, S, (Pst.bind q).imp fun x G1 H1 e1 q1 v S1 a1 => ⟨x, G1, S1, (Pst.bind q1).imp fun y G2 H2 e2 q2 vs S2 a2 => q2 G2 H2 (Ext.rf S2.w) (v :: vs) S2 (.cons (a1.ext e2) a2)⟩⟩
section
variable {x : Str} {dvs : List V} {dds : List PyData} {m : List Ar → R (Rs × List Sl)} {kws : List Keyword} {ks : List Str} {n : Nat} {k kk : DA}
theorem passF {E : XK} : Passes (L2.CX X.prog X.w) X (fun _ _ _ => False) := by
  intro pins σ H s e s' I c
  obtain ⟨_, _, _, _, _, _, _, _, _, _, _, _, z⟩ := c
  exact z.elim
theorem callD_nox {W' : WX} {Γ : List Sl} {G : Gh} {H : Hp} {σ : St} {as : List AV} {ds : List PyData} {vs : List V} {Q : VK} (hdv : ∀ G H, DnA X.K G H dvs dds) (S : Sta X.K G H σ Γ) (av : AVs X.K G H σ vs as) (hd : rdDs Γ none as = some ds)
    (hp : Pst X W' G H σ (m ((ds ++ dds).map Ar.d)).nox fun z G' H' => Sta X.K G' H' σ Γ → RsOk X.K G'.N H' Q z.1) : spU X.K X.mg m (vs ++ dvs) H Q (fun cls d H => False) := by
  refine callD_core (W := fun _ _ _ _ => False) (dds := dds) hdv S av hd ?_
  cases hm : m ((ds ++ dds).map Ar.d) with
  | bad => rw [hm] at hp; exact hp
  | exc y => rw [hm] at hp; exact hp.elim
  | val z => rw [hm] at hp; exact hp
def preK (n nk : Nat) (z : List AV × List Sl) (y : List AV × List Sl) : R (List PyData) := (R.req (decide (z.1.length = n) && decide (y.1.length = nk))).bind fun _ => R.ofO (rdDs y.2 none (z.1 ++ y.1))
def eCallK (m : List Ar → R (Rs × List Sl)) (n nk : Nat) (dds : List PyData) (k kk : DA) : DF := fun Γ => (k Γ).bind fun z => (kk z.2).bind fun y => (R.req (decide (z.1.length = n) && decide (y.1.length = nk))).bind fun _ => (R.ofO (rdDs y.2 none (z.1 ++ y.1))).bind fun ds => (m ((ds ++ dds).map Ar.d)).nox.bind fun r => (R.ofO (rsD r.1)).bind fun w => .val (.d true w, y.2)
def nCallK (m : List Ar → R (Rs × List Sl)) (n nk : Nat) (dds : List PyData) (k kk : DA) : DC := fun Γ => (k Γ).bind fun z => (kk z.2).bind fun y => (R.req (decide (z.1.length = n) && decide (y.1.length = nk))).bind fun _ => (R.ofO (rdDs y.2 none (z.1 ++ y.1))).bind fun ds => (m ((ds ++ dds).map Ar.d)).nox.bind fun r => (R.ofO (rsC r.1)).bind fun w => .val (w, y.2)
theorem AVs.append {K : PySem.W.Frag} {G : Gh} {H : Hp} {σ : St} : ∀ {vs us : List V} {as bs : List AV}, AVs K G H σ vs as → AVs K G H σ us bs → AVs K G H σ (vs ++ us) (as ++ bs)
  | _, _, _, _, .nil, h => h
  | _, _, _, _, .cons q r, h => .cons q (AVs.append r h)
theorem ce_callK (C : Cf0 X W sc N) (hc : CleeK X x n ks dvs (spU X.K X.mg m)) (hg : glB sc x = true) (hdv : ∀ G H, DnA X.K G H dvs dds) (ha : CA X W (e :: es) k) (hkw : CK X W kws kk)
    (hall : (backToKw pos (keywordEach kws X.env)).all (·.1.isSome) = true := by rfl) (hks : (backToKw pos (keywordEach kws X.env)).filterMap (·.1) = ks := by rfl) (hdb : (x == ("__debug__" : Str)) = false := by decide +kernel) (he : starEach (e :: es) X.env = (false, eval e X.env) :: starEach es X.env := by rfl)
    (hpl : ((backTo pos (starEach (e :: es) X.env)).any (·.1) || (backToKw pos (keywordEach kws X.env)).any (·.1.isNone)) = false := by rfl) : CE X W (.Call (.Name x p) (e :: es) kws pos) (eCallK m n ks.length dds k kk) := fun Γ => by
  obtain ⟨k', f, fd, ps, its, F, hr, hm, hk, hb⟩ := hc
  refine pe_imp (pe_callN (E := fun _ _ _ => False) F hr (C.gl hg) hm hk hb (passF (E := fun _ _ _ => False)) (ha Γ) (pk_any fun z : List AV × List Sl => hkw z.2) hall hks hdb he hpl) fun σ H Q ⟨G, S, q⟩ => ⟨G, S, (Pst.bind q).imp fun z G1 H1 e1 p1 vs S1 av => ⟨z, G1, S1, (Pst.bind p1).imp fun y G2 H2 e2 p2 zs S2 az => ?_⟩⟩
  obtain ⟨hl, p2⟩ := Pst.req p2
  rw [Bool.and_eq_true] at hl
  obtain ⟨ds, hds, p2⟩ := Pst.ofO p2
  refine ⟨av.len.trans (of_decide_eq_true hl.1), az.len.trans (of_decide_eq_true hl.2), callD_nox (W' := W) hdv S2 ((av.ext e2).append az) hds ((Pst.bind p2).imp fun r G3 H3 e3 p3 S3 => ?_)⟩
  obtain ⟨w, hw, p3⟩ := Pst.ofO p3
  cases hz : r.1 with
  | d w =>
    rw [hz] at hw
    cases hw
    exact fun v hv => p3 G3 H3 (Ext.rf S3.w) v S3 hv
  | c w => rw [hz] at hw; cases hw
theorem cc_callK (C : Cf0 X W sc N) (hc : CleeK X x n ks dvs (spU X.K X.mg m)) (hg : glB sc x = true) (hdv : ∀ G H, DnA X.K G H dvs dds) (ha : CA X W (e :: es) k) (hkw : CK X W kws kk)
    (hall : (backToKw pos (keywordEach kws X.env)).all (·.1.isSome) = true := by rfl) (hks : (backToKw pos (keywordEach kws X.env)).filterMap (·.1) = ks := by rfl) (hdb : (x == ("__debug__" : Str)) = false := by decide +kernel) (he : starEach (e :: es) X.env = (false, eval e X.env) :: starEach es X.env := by rfl)
    (hpl : ((backTo pos (starEach (e :: es) X.env)).any (·.1) || (backToKw pos (keywordEach kws X.env)).any (·.1.isNone)) = false := by rfl) : CC X W (.Call (.Name x p) (e :: es) kws pos) (nCallK m n ks.length dds k kk) := fun Γ => by
  obtain ⟨k', f, fd, ps, its, F, hr, hm, hk, hb⟩ := hc
  refine pe_imp (pe_callN (E := fun _ _ _ => False) F hr (C.gl hg) hm hk hb (passF (E := fun _ _ _ => False)) (ha Γ) (pk_any fun z : List AV × List Sl => hkw z.2) hall hks hdb he hpl) fun σ H Q ⟨G, S, q⟩ => ⟨G, S, (Pst.bind q).imp fun z G1 H1 e1 p1 vs S1 av => ⟨z, G1, S1, (Pst.bind p1).imp fun y G2 H2 e2 p2 zs S2 az => ?_⟩⟩
  obtain ⟨hl, p2⟩ := Pst.req p2
  rw [Bool.and_eq_true] at hl
  obtain ⟨ds, hds, p2⟩ := Pst.ofO p2
  refine ⟨av.len.trans (of_decide_eq_true hl.1), az.len.trans (of_decide_eq_true hl.2), callD_nox (W' := W) hdv S2 ((av.ext e2).append az) hds ((Pst.bind p2).imp fun r G3 H3 e3 p3 S3 => ?_)⟩
  obtain ⟨w, hw, p3⟩ := Pst.ofO p3
  cases hz : r.1 with
  | c w =>
    rw [hz] at hw
    cases hw
    exact fun v H4 hn => p3 G3 H3 (Ext.rf S3.w) v H4 S3 hn
  | d w => rw [hz] at hw; cases hw
end
end
end PD


set_option Elab.async false
set_option linter.all false
set_option maxRecDepth 100000
set_option maxHeartbeats 4000000
set_option autoImplicit false
namespace PD
open PySem L2
/-! ## a value that is data or a new cell, as it comes -/
abbrev DX := List Sl → R (Rs × List Sl)
def FinX (K : PySem.W.Frag) (G : Gh) (H : Hp) (σ : St) (Γ : List Sl) (Q : VK) : Rs → Prop
  | .d x => ∀ v, Sta K G H σ Γ → Dn K (rg G true) H v x → Q v H
  | .c c => ∀ v H2, Sta K G H σ Γ → NewC K (rg G true) H c v H2 → Q v H2
def rdX (X : Cx) (W : WX) (Γ : List Sl) (m : R (Rs × List Sl)) : TE := fun σ H Q => ∃ G, Sta X.K G H σ Γ ∧ Pst X W G H σ m fun r G' H' => FinX X.K G' H' σ r.2 Q r.1
def CX (X : Cx) (W : WX) (e : Expr) (f : DX) : Prop := ∀ Γ, PE X e (rdX X W Γ (f Γ))
section
variable {X : Cx} {W : WX} {sc : Scope} {N : List Str} {e : Expr} {es : List Expr} {pos p : Pos} {x : Str} {dvs : List V} {dds : List PyData} {m : List Ar → R (Rs × List Sl)} {kws : List Keyword} {ks : List Str} {n : Nat} {k kk : DA} {f : DX}
def xC (n : DC) : DX := fun Γ => (n Γ).bind fun z => .val (.c z.1, z.2)
theorem cx_c {n : DC} (h : CC X W e n) : CX X W e (xC n) := fun Γ => pe_imp (h Γ) fun σ H Q ⟨G, S, q⟩ => ⟨G, S, (Pst.bind q).imp fun z G1 H1 e1 p1 v H2 S1 nc => p1 G1 H1 (Ext.rf S1.w) v H2 S1 nc⟩
def xE (f : DF) : DX := fun Γ => (f Γ).bind fun z => (frzA z).bind fun y => match y.1 with
  | .d true d => .val (.d d, y.2)
  | _ => .bad
theorem cx_e {f : DF} (h : CE X W e f) : CX X W e (xE f) := fun Γ => pe_imp (h Γ) fun σ H Q ⟨G, S, q⟩ => ⟨G, S, (Pst.bind q).imp fun z G1 H1 e1 p1 v S1 hv => by
  obtain ⟨y, G2, S2, e2, h2, p2⟩ := frzP S1 hv p1
  obtain ⟨a, Γ2⟩ := y
  cases a with
  | s j => exact p2.elim
  | d fr d =>
    cases fr with
    | false => exact p2.elim
    | true => exact p2 G2 H1 (Ext.rf S2.w) v S2 h2⟩
/-- calls -/
def xCall (m : List Ar → R (Rs × List Sl)) (dds : List PyData) (k : DA) : DX := fun Γ => (k Γ).bind fun z => (R.ofO (rdDs z.2 none z.1)).bind fun ds => ((m ((ds ++ dds).map Ar.d)).atX z.2).bind fun r => .val (r.1, z.2)
theorem cx_call (C : Cf0 X W sc N) (hc : Clee X x dvs (spU X.K X.mg m)) (hg : glB sc x = true) (hdv : ∀ G H, DnA X.K G H dvs dds) (ha : CA X W (e :: es) k)
    (hdb : (x == ("__debug__" : Str)) = false := by decide +kernel) (he : starEach (e :: es) X.env = (false, eval e X.env) :: starEach es X.env := by rfl) (hpl : (backTo pos (starEach es X.env)).any (·.1) = false := by rfl) : CX X W (.Call (.Name x p) (e :: es) [] pos) (xCall m dds k) := fun Γ => by
  obtain ⟨k', f, fd, ps, dss, F, hr, hm, hk, hb, hd⟩ := hc
  refine pe_imp (pe_callSD (E := fun σ cls d H => W cls d σ H) F hr (C.gl hg) hm hk hb hd (fun σ => passAt C.tk σ) (ha Γ) hdb he hpl) fun σ H Q ⟨G, S, q⟩ => ⟨G, S, (Pst.bind q).imp fun z G1 H1 e1 p1 vs S1 av => ?_⟩
  obtain ⟨ds, hds, p1⟩ := Pst.ofO p1
  refine callD_core hdv S1 av hds ((Pst.bind p1).imp fun r G2 H2 e2 p2 S2 => ?_)
  cases hz : r.1 with
  | d w =>
    have p2 := p2 G2 H2 (Ext.rf S2.w)
    rw [hz] at p2
    exact fun v hv => p2 v S2 hv
  | c w =>
    have p2 := p2 G2 H2 (Ext.rf S2.w)
    rw [hz] at p2
    exact fun v H3 hn => p2 v H3 S2 hn
def xCallC (m : List Ar → R (Rs × List Sl)) (n : Nat) (dds : List PyData) (k : DA) : DX := fun Γ => (k Γ).bind fun z => (preC n dds z).bind fun y => ((m y.2.2).atC n z.2 y.1 y.2.1).bind fun r => .val (r.1, r.2)
theorem cx_callC (C : Cf0 X W sc N) (n : Nat) (hc : Clee X x dvs (spU X.K X.mg m)) (hg : glB sc x = true) (hdv : ∀ G H, DnA X.K G H dvs dds) (ha : CA X W (e :: es) k)
    (hdb : (x == ("__debug__" : Str)) = false := by decide +kernel) (he : starEach (e :: es) X.env = (false, eval e X.env) :: starEach es X.env := by rfl) (hpl : (backTo pos (starEach es X.env)).any (·.1) = false := by rfl) : CX X W (.Call (.Name x p) (e :: es) [] pos) (xCallC m n dds k) := fun Γ => by
  obtain ⟨k', f, fd, ps, dss, F, hr, hm, hk, hb, hd⟩ := hc
  refine pe_imp (pe_callSD (E := fun σ cls d H => W cls d σ H) F hr (C.gl hg) hm hk hb hd (fun σ => passAt C.tk σ) (ha Γ) hdb he hpl) fun σ H Q ⟨G, S, q⟩ => ⟨G, S, (Pst.bind q).imp fun z G1 H1 e1 p1 vs S1 av => ?_⟩
  obtain ⟨i, ic, ds, h1, h2, h3, h4, p1⟩ := preC_ok p1
  refine callC_core hdv S1 av h1 h2 h3 h4 ((Pst.bind p1).imp fun r G2 H2 e2 p2 S2 => ?_)
  cases hz : r.1 with
  | d w =>
    have p2 := p2 G2 H2 (Ext.rf S2.w)
    rw [hz] at p2
    exact fun v hv => p2 v S2 hv
  | c w =>
    have p2 := p2 G2 H2 (Ext.rf S2.w)
    rw [hz] at p2
    exact fun v H3 hn => p2 v H3 S2 hn
def xCallK (m : List Ar → R (Rs × List Sl)) (n nk : Nat) (dds : List PyData) (k kk : DA) : DX := fun Γ => (k Γ).bind fun z => (kk z.2).bind fun y => (R.req (decide (z.1.length = n) && decide (y.1.length = nk))).bind fun _ => (R.ofO (rdDs y.2 none (z.1 ++ y.1))).bind fun ds => (m ((ds ++ dds).map Ar.d)).nox.bind fun r => .val (r.1, y.2)
theorem cx_callK (C : Cf0 X W sc N) (hc : CleeK X x n ks dvs (spU X.K X.mg m)) (hg : glB sc x = true) (hdv : ∀ G H, DnA X.K G H dvs dds) (ha : CA X W (e :: es) k) (hkw : CK X W kws kk)
    (hall : (backToKw pos (keywordEach kws X.env)).all (·.1.isSome) = true := by rfl) (hks : (backToKw pos (keywordEach kws X.env)).filterMap (·.1) = ks := by rfl) (hdb : (x == ("__debug__" : Str)) = false := by decide +kernel) (he : starEach (e :: es) X.env = (false, eval e X.env) :: starEach es X.env := by rfl)
    (hpl : ((backTo pos (starEach (e :: es) X.env)).any (·.1) || (backToKw pos (keywordEach kws X.env)).any (·.1.isNone)) = false := by rfl) : CX X W (.Call (.Name x p) (e :: es) kws pos) (xCallK m n ks.length dds k kk) := fun Γ => by
  obtain ⟨k', f, fd, ps, its, F, hr, hm, hk, hb⟩ := hc
  refine pe_imp (pe_callN (E := fun _ _ _ => False) F hr (C.gl hg) hm hk hb (passF (E := fun _ _ _ => False)) (ha Γ) (pk_any fun z : List AV × List Sl => hkw z.2) hall hks hdb he hpl) fun σ H Q ⟨G, S, q⟩ => ⟨G, S, (Pst.bind q).imp fun z G1 H1 e1 p1 vs S1 av => ⟨z, G1, S1, (Pst.bind p1).imp fun y G2 H2 e2 p2 zs S2 az => ?_⟩⟩
  obtain ⟨hl, p2⟩ := Pst.req p2
  rw [Bool.and_eq_true] at hl
  obtain ⟨ds, hds, p2⟩ := Pst.ofO p2
  refine ⟨av.len.trans (of_decide_eq_true hl.1), az.len.trans (of_decide_eq_true hl.2), callD_nox (W' := W) hdv S2 ((av.ext e2).append az) hds ((Pst.bind p2).imp fun r G3 H3 e3 p3 S3 => ?_)⟩
  have p3 := p3 G3 H3 (Ext.rf S3.w)
  cases hz : r.1 with
  | d w => rw [hz] at p3; exact fun v hv => p3 v S3 hv
  | c w => rw [hz] at p3; exact fun v H4 hn => p3 v H4 S3 hn
/-- as data -/
def rsF : Rs → Option PyData
  | .d x => some x
  | .c c => frzC c
def eX (f : DX) : DF := fun Γ => (f Γ).bind fun z => (R.ofO (rsF z.1)).bind fun d => .val (.d true d, z.2)
theorem ce_x (h : CX X W e f) : CE X W e (eX f) := fun Γ => pe_imp (h Γ) fun σ H Q ⟨G, S, q⟩ => ⟨G, S, (Pst.bind q).imp fun z G1 H1 e1 p1 => by
  obtain ⟨r, Γ1⟩ := z
  cases r with
  | d x =>
    intro v S1 hv
    exact p1 G1 H1 (Ext.rf S1.w) v S1 hv
  | c c =>
    intro v H2 S1 nc
    obtain ⟨d, hd, p1⟩ := Pst.ofO p1
    obtain ⟨G2, S2, e2, hv⟩ := NewC.frz S1 nc hd
    exact p1 G2 H2 e2 v S2 hv⟩
/-- x = e -/
def rsS : Rs → Sl
  | .d x => .dat true x
  | .c c => .own c
def bSetX (i : Nat) (f : DX) : DS := fun Γ => (f Γ).bind fun z => .val (.nx, z.2.set i (rsS z.1))
theorem c1_setX (C : Cf0 X W sc N) (i : Nat) {x : Str} {p' : Pos} (hN : N[i]? = some x) (hv : Sto X sc x) (he : CX X W e f) (hs : swapsWith e (some (.Name x p')) pos.line X.env = pure false := by rfl) : C1 X W (.Assign [.Name x p'] e pos) (bSetX i f) := fun Γ => by
  have hx : Loc X.env.scope x := by rw [C.hsc]; exact hv.1
  refine ps_imp (ps_set (i := i) (by rw [C.hN]; exact C.nd) (by rw [C.hN]; exact hN) hx (he Γ) hs (by rw [C.hsc]; exact hv.2)) fun D σ H ⟨G, S, p⟩ => ⟨G, S, (Pst.bind p).imp fun z G1 H1 e1 p1 => ?_⟩
  obtain ⟨r, Γ1⟩ := z
  cases r with
  | d x =>
    intro v S1 hv
    exact p1 G1 H1 (Ext.rf S1.w) _ (S1.put i hv)
  | c c =>
    intro v H2 S1 nc
    obtain ⟨S2, e2⟩ := S1.putC i nc
    exact p1 G1 H2 e2 _ S2
/-- return e -/
def bRetX (f : DX) : DS := fun Γ => (f Γ).bind fun z => .val (.rt z.1, z.2)
theorem c1_retX (he : CX X W e f) : C1 X W (.Return (some e) pos) (bRetX f) := fun Γ =>
  ps_imp (ps_ret (he Γ)) fun D σ H ⟨G, S, p⟩ => ⟨G, S, (Pst.bind p).imp fun z G1 H1 e1 p1 => by
    obtain ⟨r, Γ1⟩ := z
    cases r with
    | d x =>
      intro v S1 hv
      exact p1 G1 H1 (Ext.rf S1.w) σ v S1 hv
    | c c =>
      intro v H2 S1 nc
      exact p1 G1 H1 (Ext.rf S1.w) σ v H2 S1 nc⟩
/-- e -/
def bExprX (f : DX) : DS := fun Γ => (f Γ).bind fun z => (R.ofO (rsF z.1)).bind fun _ => .val (.nx, z.2)
theorem c1_exprX (he : CX X W e f) (hs : swapsWith e none pos.line X.env = pure false := by rfl) : C1 X W (.Expr e pos) (bExprX f) := by
  have h := c1_expr (pos := pos) (ce_x he) hs
  intro Γ
  have h := h Γ
  have e1 : bExpr (eX f) Γ = bExprX f Γ := by
    unfold bExpr eX bExprX
    cases f Γ with
    | bad => rfl
    | exc x => rfl
    | val z =>
      show (((R.ofO (rsF z.1)).bind fun d => R.val (AV.d true d, z.2)).bind fun z => R.val (Fw.nx, z.2)) = (R.ofO (rsF z.1)).bind fun _ => R.val (Fw.nx, z.2)
      cases rsF z.1 <;> rfl
  rw [e1] at h
  exact h
end
end PD


set_option Elab.async false
set_option linter.all false
set_option maxRecDepth 100000
set_option maxHeartbeats 4000000
set_option autoImplicit false
namespace PD
open PySem L2
section
variable {X : Cx} {W : WX} {sc : Scope} {N : List Str} {a b e : Expr} {es : List Expr} {pos p p2 : Pos} {f g : DF}
/-- x[lo:hi]: of a list a new list, of a tuple a tuple -/
def cutX (x : AV × List Sl) (l h : Option Int × List Sl) : R (Rs × List Sl) := match lsA h.2 x.1 with
  | some ds => .val (.c (.lst (cutD ds l.1 h.1)), h.2)
  | none => match x.1 with
    | .d fr (.tuple ds) => gq (fr || flat.flatA ds) (.d (.tuple (cutD ds l.1 h.1)), h.2)
    | _ => .bad
def xCut (f : DF) (lo hi : DO) : DX := fun Γ => (f Γ).bind fun x => (lo x.2).bind fun l => (hi l.2).bind fun h => cutX x l h
theorem cx_cut {lo hi : Option Expr} {fl fh : DO} (ha : CE X W a f) (hl : CO X W lo fl) (hh : CO X W hi fh) : CX X W (.Subscript a (.Slice lo hi none p2) pos) (xCut f fl fh) := fun Γ =>
  pe_imp (pe_slice (sl_list.or sl_tupA) (ha Γ) (po_any fun x : AV × List Sl => hl x.2) (po_any fun x : Option Int × List Sl => hh x.2)) fun σ H Q ⟨G, S, q⟩ => ⟨G, S, (Pst.bind q).imp fun x G1 H1 e1 q1 v S1 hv => ⟨x, G1, S1, (Pst.bind q1).imp fun l G2 H2 e2 q2 S2 => ⟨l, G2, S2, (Pst.bind q2).imp fun h G3 H3 e3 q3 S3 => by
    have hv := hv.ext (e2.tr e3)
    unfold cutX at q3
    split at q3
    · rename_i ds hd
      obtain ⟨p, xs, rfl, g1, g2⟩ := lsA_ok hd S3 hv
      exact .inl ⟨p, xs, rfl, g1, fun r hr => q3 G3 H3 (Ext.rf S3.w) _ _ S3 (newc_lst hr (g2.cut _ _))⟩
    · split at q3
      · rename_i fr ds hx
        rw [hx] at hv
        obtain ⟨hc, q3⟩ := Pst.req q3
        obtain ⟨r, xs, rfl, g1, g2⟩ := dn_tupleH hv
        have g2 := g2.fresh hc
        refine .inr ⟨r, xs, rfl, SqT.of g1, fun hw => ?_, fun hw t ht => ?_⟩
        · refine q3 G3 H3 (Ext.rf S3.w) _ S3 ?_
          rw [g2.length] at hw
          show Dn X.K (rg G3 true) H3 _ (.tuple (cutD ds l.1 h.1))
          rw [cut_whole ds hw]
          exact .tup g1 g2
        · obtain ⟨G4, S4, e4, h4⟩ := S3.newTup ht (g2.cut l.1 h.1)
          exact q3 G4 _ e4 _ S4 h4
      · exact q3.elim⟩⟩⟩
/-- the law's promise, from its mirror at a list of numbers -/
theorem spU_law {K : PySem.W.Frag} {mg : Str → Option Value} {H : Hp} {a : Addr} {ns : List Int} {m : List Ar → R (Rs × List Sl)} (h : m [.d (.list (ns.map PyData.int))] = .val (.d (.bool true), [.un])) (hS : SqL K H a (ns.map V.int)) : spU K mg m [.ref a] H (fun v _ => v = .bl true) fun _ _ _ => False := by
  refine ⟨[.d (.list (ns.map PyData.int))], fun _ => [], [], fun _ => none, ?_, ?_⟩
  · refine argsD (ds := [.list (ns.map PyData.int)]) (.cons (.lst ((LsR.of_sq hS).mono fun _ _ z => ⟨z, by simp⟩) (ints_dna ns)) .nil) (fun a o h => by cases h)
  · rw [h]
    exact fun H' N F' _ v hv => dn_bool hv
end
end PD


set_option Elab.async false
set_option linter.all false
set_option maxRecDepth 100000
set_option maxHeartbeats 4000000
set_option autoImplicit false
namespace PD
open PySem L2
section
variable {X : Cx} {W : WX} {sc : Scope} {N : List Str} {a b c e : Expr} {es : List Expr} {pos p p2 q2 : Pos} {f g h : DF}
/-- len(set(x)) of a list of unlike whole numbers -/
def ndI (ns : List Int) : Bool := lt64 ns && decide ns.Nodup
def dLset (f : DF) : DF := fun Γ => (f Γ).bind fun z => (R.ofO (rdInts z.2 z.1)).bind fun ns => (R.req (ndI ns)).bind fun _ => .val (.d true (.int (ns.length : Nat)), z.2)
theorem ce_lset (C : Cf X W sc N) (hg : glB sc "len" = true) (hm : X.mg "len" = none) (hg2 : glB sc "set" = true) (hm2 : X.mg "set" = none) (ha : CE X W a f) (na : starEach [a] X.env = (false, eval a X.env) :: starEach [] X.env := by rfl) :
    CE X W (.Call (.Name "len" p) [.Call (.Name "set" p2) [a] [] q2] [] pos) (dLset f) := fun Γ =>
  pe_imp (pe_lenSetI C.calm (C.gl hg) hm (C.gl hg2) hm2 (ha Γ) na) fun σ H Q ⟨G, S, q⟩ => ⟨G, S, (Pst.bind q).imp fun r G1 H1 e1 q1 v S1 hv => by
    obtain ⟨ns, hn, q1⟩ := Pst.ofO q1
    obtain ⟨hc, q2⟩ := Pst.req q1
    unfold ndI at hc
    rw [Bool.and_eq_true] at hc
    obtain ⟨l, rfl, g1⟩ := rdInts_ok S1 hv hn
    exact ⟨l, ns, rfl, g1, of_decide_eq_true hc.1, of_decide_eq_true hc.2, q2 G1 H1 (Ext.rf S1.w) _ S1 (.int _)⟩⟩
/-- list(range(..)) -/
def cLrg (i j : Int) : Bool := cRng i j && decide ((j - i).toNat ≤ 2 ^ 24)
theorem cLrg_ok {i j : Int} (h : cLrg i j = true) : RgOk i j := by
  unfold cLrg cRng at h
  rw [Bool.and_eq_true] at h
  have h1 := of_decide_eq_true h.1
  have h2 := of_decide_eq_true h.2
  exact ⟨h1.1, h1.2.1, h1.2.2.1, h1.2.2.2, h2⟩
theorem rgV_dna {K : PySem.W.Frag} {G : Rg} {H : Hp} (i j : Int) : DnA K G H (rgV i j) ((rng i j).map PyData.int) := by
  have : rgV i j = (rng i j).map V.int := by unfold rgV rng; rw [List.map_map]; rfl
  rw [this]
  exact ints_dna _
def dLrng1 (f : DF) : DN := fun Γ => (f Γ).bind fun z => (R.ofO (intA z.1)).bind fun j => gq (cLrg 0 j) ((rng 0 j).map PyData.int, z.2)
theorem cn_lrng1 (C : Cf X W sc N) {p3 p4 : Pos} (hg : glB sc "list" = true) (hm : X.mg "list" = none) (hg2 : glB sc "range" = true) (hm2 : X.mg "range" = none) (ha : CE X W a f) (na : starEach [a] X.env = (false, eval a X.env) :: starEach [] X.env := by rfl)
    (na2 : starEach [.Call (.Name "range" p3) [a] [] p4] X.env = (false, eval (.Call (.Name "range" p3) [a] [] p4) X.env) :: starEach [] X.env := by rfl) : CN X W (.Call (.Name "list" p) [.Call (.Name "range" p3) [a] [] p4] [] pos) (dLrng1 f) := fun Γ =>
  pe_imp (pe_listRg C.calm (C.gl hg) hm (prg_1 (C.gl hg2) hm2 (ha Γ) na) na2) fun σ H Q ⟨G, S, q⟩ => ⟨G, S, (Pst.bind q).imp fun r G1 H1 e1 q1 v S1 hv => by
    obtain ⟨j, hj, q1⟩ := Pst.ofO q1
    obtain ⟨hc, q1⟩ := Pst.gq S1.w q1
    exact ⟨j, intA_ok hj hv, cLrg_ok hc, fun q hq => q1 q _ S1 hq (rgV_dna 0 j)⟩⟩
def dLrng2 (f g : DF) : DN := fun Γ => (f Γ).bind fun z => (g z.2).bind fun y => (R.ofO (intA z.1)).bind fun i => (R.ofO (intA y.1)).bind fun j => gq (cLrg i j) ((rng i j).map PyData.int, y.2)
theorem cn_lrng2 (C : Cf X W sc N) {p3 p4 : Pos} (hg : glB sc "list" = true) (hm : X.mg "list" = none) (hg2 : glB sc "range" = true) (hm2 : X.mg "range" = none) (ha : CE X W a f) (hb : CE X W b g) (na : starEach [a, b] X.env = (false, eval a X.env) :: starEach [b] X.env := by rfl) (nb : starEach [b] X.env = (false, eval b X.env) :: starEach [] X.env := by rfl)
    (hp : (backTo p4 (starEach [b] X.env)).any (·.1) = false := by rfl) (na2 : starEach [.Call (.Name "range" p3) [a, b] [] p4] X.env = (false, eval (.Call (.Name "range" p3) [a, b] [] p4) X.env) :: starEach [] X.env := by rfl) : CN X W (.Call (.Name "list" p) [.Call (.Name "range" p3) [a, b] [] p4] [] pos) (dLrng2 f g) := fun Γ =>
  pe_imp (pe_listRg C.calm (C.gl hg) hm (prg_2 (C.gl hg2) hm2 (ha Γ) (pe_any fun x : AV × List Sl => hb x.2) na nb hp) na2) fun σ H Q ⟨G, S, q⟩ => ⟨G, S, (Pst.bind q).imp fun x G1 H1 e1 q1 v S1 hv => ⟨x, G1, S1, (Pst.bind q1).imp fun y G2 H2 e2 q2 u S2 hu => by
    obtain ⟨i, hi, q2⟩ := Pst.ofO q2
    obtain ⟨j, hj, q2⟩ := Pst.ofO q2
    obtain ⟨hc, q2⟩ := Pst.gq S2.w q2
    exact ⟨i, j, intA_ok hi (hv.ext e2), intA_ok hj hu, cLrg_ok hc, fun q hq => q2 q _ S2 hq (rgV_dna i j)⟩⟩⟩
/-- i < j < k and its kin -/
def dChain (r r' : Int → Int → Bool) (f g h : DF) : DF := fun Γ => (f Γ).bind fun x => (g x.2).bind fun y => (R.ofO (intA x.1)).bind fun i => (R.ofO (intA y.1)).bind fun j => if r i j then (h y.2).bind fun z => (R.ofO (intA z.1)).bind fun k => .val (.d true (.bool (r' j k)), z.2) else .val (.d true (.bool false), y.2)
theorem chain_rd {op op' : CmpOp} {r r' : Int → Int → Bool} {Γ : List Sl} (ha : CE X W a f) (hb : CE X W b g) (hc : CE X W c h) {σ : St} {H : Hp} {Q : VK} (hq : rdE X W Γ (dChain r r' f g h Γ) Prod.fst Prod.snd σ H Q) :
    tChain (rI0 fun i j => .bl (r i j)) (rI0 fun i j => .bl (r' i j)) (rdE X W Γ (f Γ) Prod.fst Prod.snd) (fun σ H Q => ∃ x : AV × List Sl, rdE X W x.2 (g x.2) Prod.fst Prod.snd σ H Q) (fun σ H Q => ∃ x : AV × List Sl, rdE X W x.2 (h x.2) Prod.fst Prod.snd σ H Q) σ H Q := by
  obtain ⟨G, S, q⟩ := hq
  refine ⟨G, S, (Pst.bind q).imp fun x G1 H1 e1 q1 v S1 hv => ⟨x, G1, S1, (Pst.bind q1).imp fun y G2 H2 e2 q2 u S2 hu => ?_⟩⟩
  obtain ⟨i, hi, q2⟩ := Pst.ofO q2
  obtain ⟨j, hj, q2⟩ := Pst.ofO q2
  have hu' := intA_ok hj hu
  refine ⟨i, j, intA_ok hi (hv.ext e2), hu', r i j, rfl, ?_⟩
  by_cases hr : r i j = true
  · rw [if_pos hr] at q2 ⊢
    refine ⟨y, G2, S2, (Pst.bind q2).imp fun z G3 H3 e3 q3 w S3 hw => ?_⟩
    obtain ⟨k, hk, q3⟩ := Pst.ofO q3
    exact ⟨j, k, hu', intA_ok hk hw, q3 G3 H3 (Ext.rf S3.w) _ S3 (.bl _)⟩
  · rw [if_neg hr] at q2 ⊢
    exact q2 G2 H2 (Ext.rf S2.w) _ S2 (.bl _)
theorem ce_chain {op op' : CmpOp} {r r' : Int → Int → Bool} (ho : OpR X (compareOp op) (rI0 fun i j => .bl (r i j))) (ho' : OpR X (compareOp op') (rI0 fun i j => .bl (r' i j))) (ha : CE X W a f) (hb : CE X W b g) (hc : CE X W c h)
    (hm : lastMarks [op, op'] [b, c] = false := by with_unfolding_all rfl) : CE X W (.Compare a [op, op'] [b, c] pos) (dChain r r' f g h) := fun Γ =>
  pe_imp (pe_chain ho ho' (ha Γ) (pe_any fun x : AV × List Sl => hb x.2) (pe_any fun x : AV × List Sl => hc x.2) hm) fun σ H Q hq => chain_rd (op := op) (op' := op') ha hb hc hq
theorem ct_chain {op op' : CmpOp} {r r' : Int → Int → Bool} (ho : OpR X (compareOp op) (rI0 fun i j => .bl (r i j))) (ho' : OpR X (compareOp op') (rI0 fun i j => .bl (r' i j))) (ha : CE X W a f) (hb : CE X W b g) (hc : CE X W c h)
    (hm : lastMarks [op, op'] [b, c] = false := by with_unfolding_all rfl) : CT X W (.Compare a [op, op'] [b, c] pos) (dTst (dChain r r' f g h)) := fun Γ => by
  refine ⟨fun pins s σ H Q I hq => (pt_chain ho ho' (ha Γ) (pe_any fun x : AV × List Sl => hb x.2) (pe_any fun x : AV × List Sl => hc x.2) hm).run pins s σ H Q I (chain_rd (op := op) (op' := op') (r := r) (r' := r') ha hb hc ?_)⟩
  obtain ⟨G, S, q⟩ := hq
  refine ⟨G, S, (Pst.bind q).imp fun z G1 H1 e1 q1 v S1 hv => ?_⟩
  obtain ⟨y, Γ1⟩ := z
  cases y with
  | s j => exact q1.elim
  | d fr d =>
    cases d <;> try exact q1.elim
    rename_i k
    exact ⟨k, dn_bool hv, q1 G1 H1 (Ext.rf S1.w) S1⟩
end
end PD


set_option Elab.async false
set_option linter.all false
set_option maxRecDepth 100000
set_option maxHeartbeats 4000000
set_option autoImplicit false
namespace PD
open PySem L2
/-! ## zip of a list or a tuple with a list or a tuple -/
def ItK (t : Bool) (h : Heap) (it l : Addr) (i : Nat) : Prop := match t with
  | true => h.IsTupleIter it l i
  | false => h.IsListIter it l i
def SqK (t : Bool) (h : Heap) (l : Addr) (xs : Array Value) : Prop := match t with
  | true => h.IsTuple l xs
  | false => h.IsList l xs
theorem ItK.e {t : Bool} {h h' : Heap} {it b l : Addr} {i : Nat} (x : ItK t h it l i) (hs : Heap.ExtBut b h h') (n : it ≠ b) : ItK t h' it l i := by
  cases t
  · exact Heap.IsListIter.extBut x hs n
  · exact Heap.IsTupleIter.extBut x hs n
theorem ItK.at {t : Bool} {h h' : Heap} {it l : Addr} {i : Nat} (x : ItK t h it l i) (k : ∀ o, h.get? it = some o → h'.get? it = some o) : ItK t h' it l i := by
  cases t
  · exact Heap.IsListIter.at x k
  · exact Heap.IsTupleIter.at x k
theorem ItK.ob {t : Bool} {h : Heap} {it l : Addr} {i : Nat} (x : ItK t h it l i) : ∃ o fs, h.get? it = some o ∧ o.data = .fields fs := by
  cases t
  · obtain ⟨o, h1, _, h2⟩ := x; exact ⟨o, _, h1, h2⟩
  · obtain ⟨o, h1, _, h2⟩ := x; exact ⟨o, _, h1, h2⟩
theorem SqK.e {t : Bool} {h h' : Heap} {l b : Addr} {xs : Array Value} (x : SqK t h l xs) (hs : Heap.ExtBut b h h') (n : l ≠ b) : SqK t h' l xs := by
  cases t
  · exact Heap.IsList.extBut x hs n
  · exact Heap.IsTuple.extBut x hs n
theorem SqK.p {t : Bool} {h : Heap} {l : Addr} {xs : Array Value} (x : SqK t h l xs) (o : Obj) : SqK t (h.push o) l xs := by
  cases t
  · exact Heap.IsList.push x o
  · exact Heap.IsTuple.push x o
section
variable {prog : Program} {w : World} {A : Around} {E : Value → Shared → Prop} {s : Shared}
theorem nxK {t : Bool} {it l : Addr} {i : Nat} {xs : Array Value} {x : Value} {Q : Value → Shared → Prop} (hi : ItK t s.heap it l i) (hl : SqK t s.heap l xs) (hx : xs[i]? = some x) (hQ : ∀ h', ItK t h' it l (i + 1) → Heap.SameBut it s.heap h' → Q x { s with heap := h' }) : wpAny (model prog w) A (Builtin.SmallTypes.nextOf (.ref it)) Q E s := by
  cases t
  · exact wpAny_nextOf_list_item hi hl hx hQ
  · exact RZ.nextOf_tuple_item hi hl hx hQ
theorem nxK0 {t : Bool} {it l : Addr} {i : Nat} {xs : Array Value} {Q : Value → Shared → Prop} (hh : A.handled = none) (hi : ItK t s.heap it l i) (hl : SqK t s.heap l xs) (hx : xs[i]? = none) (hE : ∀ h' e, Heap.ExtBut it s.heap h' → (∃ o, h'.get? e = some o ∧ o.cls = .type "StopIteration") → E (.ref e) { s with heap := h' }) : wpAny (model prog w) A (Builtin.SmallTypes.nextOf (.ref it)) Q E s := by
  cases t
  · exact wpAny_nextOf_list_end hh hi hl hx hE
  · exact RZ.nextOf_tuple_end hh hi hl hx hE
variable {t1 t2 : Bool} {z TI TO i1 i2 l1 l2 : Addr} {k1 k2 : Nat} {xs ys : Array Value}
theorem zk_item {x y a b : Value} {Q : Value → Shared → Prop} (D : ZipApart z TI TO i1 i2 l1 l2) (hz : IsZip s.heap z TI TO .none) (hTI : IsPair s.heap TI (.ref i1) (.ref i2)) (hTO : IsPair s.heap TO a b) (h1 : ItK t1 s.heap i1 l1 k1) (h2 : ItK t2 s.heap i2 l2 k2) (hl1 : SqK t1 s.heap l1 xs) (hl2 : SqK t2 s.heap l2 ys) (hx : xs[k1]? = some x) (hy : ys[k2]? = some y)
    (hQ : ∀ h', IsZip h' z TI TO (rawInt s.heap.objs.size) → IsPair h' TO x y → ItK t1 h' i1 l1 (k1 + 1) → ItK t2 h' i2 l2 (k2 + 1) → IsPair h' s.heap.objs.size x y → (∀ c o, c ≠ z → c ≠ TO → c ≠ i1 → c ≠ i2 → s.heap.get? c = some o → h'.get? c = some o) → Q (.ref s.heap.objs.size) { s with heap := h' }) :
    wpAny (model prog w) A (Builtin.«zip.__next__» ⟨[.ref z], []⟩) (fun fin s' => ∃ v, fin = .done (.ret v) ∧ Q v s') E s := by
  show wpAny _ _ (field (.ref z) 2 >>= _) _ _ _; refine wpAny_bind (wpAny_field hz rfl (x := .bool false) rfl (show wpAny _ _ (field (.ref z) 3 >>= _) _ _ _ from wpAny_bind (wpAny_field hz rfl (x := .ref TI) rfl (wpAny_bind (wpAny_seqItems hTI rfl ?_)))))
  show wpAny _ _ (Builtin.SmallTypes.ownedTupleIsFree (.ref z) >>= _) _ _ _; refine wpAny_bind ?_
  unfold Builtin.SmallTypes.ownedTupleIsFree; refine wpAny_bind (wpAny_field hz rfl (x := .none) rfl (wpAny_pure ?_)); simp only [if_true]
  refine wpAny_bind (wpAny_rule (wpAny_bind (wpAny_field hz rfl (x := .ref TO) rfl (wpAny_bind (wpAny_setField_rec hz (by simp) fun g1 z1 b1 => wpAny_bind ?_)))))
  have z1 : IsZip g1 z TI TO .ellipsis := z1; simp only [List.zipIdx_cons, List.zipIdx_nil, List.forIn_cons, List.forIn_nil]
  refine wpAny_bind (wpAny_bind (wpAny_onRaise (show wpAny _ _ (Builtin.SmallTypes.nextOf (.ref i1) >>= _) _ _ _ from wpAny_bind (nxK (h1.e b1.extBut D.i1z) (hl1.e b1.extBut D.l1z) hx fun g2 n2 b2 => wpAny_pure ?_))))
  have o2 : IsPair g2 TO a b := b2.extBut _ _ D.TOi1 (b1.extBut _ _ D.TOz hTO)
  refine wpAny_bind (wpAny_seqItems o2 rfl (wpAny_bind (wpAny_updateSeq_pair o2 fun g3 o3 b3 => wpAny_bind (wpAny_letGo (wpAny_pure ?_)))))
  have o3 : IsPair g3 TO x b := o3
  refine wpAny_bind (wpAny_bind (wpAny_onRaise (show wpAny _ _ (Builtin.SmallTypes.nextOf (.ref i2) >>= _) _ _ _ from wpAny_bind (nxK (((h2.e b1.extBut D.i2z).e b2.extBut D.i12.symm).e b3.extBut D.TOi2.symm) (((hl2.e b1.extBut D.l2z).e b2.extBut D.l2i1).e b3.extBut D.l2TO) hy fun g4 n4 b4 => wpAny_pure ?_))))
  have o4 : IsPair g4 TO x b := b4.extBut _ _ D.TOi2 o3
  refine wpAny_bind (wpAny_seqItems o4 rfl (wpAny_bind (wpAny_updateSeq_pair o4 fun g5 o5 b5 => wpAny_bind (wpAny_letGo (wpAny_pure (wpAny_pure ?_))))))
  have o5 : IsPair g5 TO x y := o5
  refine wpAny_bind (wpAny_seqItems o5 rfl (wpAny_bind (wpAny_newTuple ?_)))
  have sz : g5.objs.size = s.heap.objs.size := by rw [b5.1, b4.1, b3.1, b2.1, b1.1]
  have z5 : IsZip g5 z TI TO .ellipsis := b5.extBut _ _ D.TOz.symm (b4.extBut _ _ D.i2z.symm (b3.extBut _ _ D.TOz.symm (b2.extBut _ _ D.i1z.symm z1)))
  have kp : ∀ c o, c ≠ z → c ≠ TO → c ≠ i1 → c ≠ i2 → s.heap.get? c = some o → g5.get? c = some o := fun c o c1 c2 c3 c4 q => b5.extBut _ _ c2 (b4.extBut _ _ c4 (b3.extBut _ _ c2 (b2.extBut _ _ c3 (b1.extBut _ _ c1 q))))
  have m1 : ItK t1 g5 i1 l1 (k1 + 1) := ((n2.e b3.extBut D.TOi1.symm).e b4.extBut D.i12).e b5.extBut D.TOi1.symm
  have m2 : ItK t2 g5 i2 l2 (k2 + 1) := n4.e b5.extBut D.TOi2.symm
  have zl : z < g5.objs.size := Heap.lt_size z5
  show wpAny _ _ (Builtin.SmallTypes.ownedTupleHandOut (.ref z) (.ref g5.objs.size) >>= _) _ _ _; refine wpAny_bind ?_; unfold Builtin.SmallTypes.ownedTupleHandOut
  have z6 : IsZip (g5.push { cls := .type "tuple", data := .seq #[x, y] }) z TI TO .ellipsis := Heap.get?_push_of_some _ z5
  refine wpAny_bind (wpAny_setField_rec z6 (by simp) fun g7 z7 b7 => wpAny_setField_rec (show IsZip g7 z TI TO (rawInt g5.objs.size) from z7) (by simp) fun g8 z8 b8 => ?_)
  have z8 : IsZip g8 z TI TO (rawInt g5.objs.size) := z8
  have up : ∀ c o, c ≠ z → g5.get? c = some o → g8.get? c = some o := fun c o c1 q => b8.extBut _ _ c1 (b7.extBut _ _ c1 (Heap.get?_push_of_some _ q))
  have p8 : IsPair g8 g5.objs.size x y := b8.extBut _ _ (Nat.ne_of_gt zl) (b7.extBut _ _ (Nat.ne_of_gt zl) (Heap.get?_push_size _ rfl))
  rw [sz] at z8 p8
  refine wpAny_pure ⟨_, rfl, show Q (.ref g5.objs.size) _ from ?_⟩
  rw [sz]
  exact hQ g8 z8 (up _ _ D.TOz o5) (m1.at fun o q => up _ o D.i1z q) (m2.at fun o q => up _ o D.i2z q) p8 fun c o c1 c2 c3 c4 q => up c o c1 (kp c o c1 c2 c3 c4 q)
theorem zk_end {a b : Value} {Q : Fin → Shared → Prop} (hh : A.handled = none) (D : ZipApart z TI TO i1 i2 l1 l2) (hz : IsZip s.heap z TI TO .none) (hTI : IsPair s.heap TI (.ref i1) (.ref i2)) (hTO : IsPair s.heap TO a b) (h1 : ItK t1 s.heap i1 l1 k1) (h2 : ItK t2 s.heap i2 l2 k2) (hl1 : SqK t1 s.heap l1 xs) (hl2 : SqK t2 s.heap l2 ys) (hend : xs[k1]? = none ∨ ys[k2]? = none)
    (hE : ∀ h' e, (∀ c o, c ≠ z → c ≠ TO → c ≠ i1 → c ≠ i2 → s.heap.get? c = some o → h'.get? c = some o) → (∃ o, h'.get? e = some o ∧ o.cls = .type "StopIteration") → E (.ref e) { s with heap := h' }) : wpAny (model prog w) A (Builtin.«zip.__next__» ⟨[.ref z], []⟩) Q E s := by
  show wpAny _ _ (field (.ref z) 2 >>= _) _ _ _; refine wpAny_bind (wpAny_field hz rfl (x := .bool false) rfl (show wpAny _ _ (field (.ref z) 3 >>= _) _ _ _ from wpAny_bind (wpAny_field hz rfl (x := .ref TI) rfl (wpAny_bind (wpAny_seqItems hTI rfl ?_)))))
  show wpAny _ _ (Builtin.SmallTypes.ownedTupleIsFree (.ref z) >>= _) _ _ _; refine wpAny_bind ?_
  unfold Builtin.SmallTypes.ownedTupleIsFree; refine wpAny_bind (wpAny_field hz rfl (x := .none) rfl (wpAny_pure ?_)); simp only [if_true]
  refine wpAny_bind (wpAny_rule (wpAny_bind (wpAny_field hz rfl (x := .ref TO) rfl (wpAny_bind (wpAny_setField_rec hz (by simp) fun g1 z1 b1 => wpAny_bind ?_)))))
  have z1 : IsZip g1 z TI TO .ellipsis := z1; simp only [List.zipIdx_cons, List.zipIdx_nil, List.forIn_cons, List.forIn_nil]
  refine wpAny_bind (wpAny_bind (wpAny_onRaise (show wpAny _ _ (Builtin.SmallTypes.nextOf (.ref i1) >>= _) _ _ _ from ?_)))
  cases hx : xs[k1]? with
  | none =>
    refine wpAny_bind (nxK0 hh (h1.e b1.extBut D.i1z) (hl1.e b1.extBut D.l1z) hx fun g2 e b2 ⟨oe, he, ce⟩ => ?_)
    have z2 : IsZip g2 z TI TO .ellipsis := b2 _ _ D.i1z.symm z1
    have ez : e ≠ z := fun q => by subst q; rw [z2] at he; cases he; simp at ce
    exact wpAny_setField_rec z2 (by simp) fun g3 _ b3 => hE g3 e (fun c o c1 _ c3 _ q => b3.extBut _ _ c1 (b2 _ _ c3 (b1.extBut _ _ c1 q))) ⟨oe, b3.extBut _ _ ez he, ce⟩
  | some x =>
    have hy : ys[k2]? = none := by rcases hend with q | q; rw [hx] at q; cases q; exact q
    refine wpAny_bind (nxK (h1.e b1.extBut D.i1z) (hl1.e b1.extBut D.l1z) hx fun g2 n2 b2 => wpAny_pure ?_)
    have o2 : IsPair g2 TO a b := b2.extBut _ _ D.TOi1 (b1.extBut _ _ D.TOz hTO)
    refine wpAny_bind (wpAny_seqItems o2 rfl (wpAny_bind (wpAny_updateSeq_pair o2 fun g3 o3 b3 => wpAny_bind (wpAny_letGo (wpAny_pure ?_)))))
    refine wpAny_bind (wpAny_bind (wpAny_onRaise (show wpAny _ _ (Builtin.SmallTypes.nextOf (.ref i2) >>= _) _ _ _ from wpAny_bind (nxK0 hh (((h2.e b1.extBut D.i2z).e b2.extBut D.i12.symm).e b3.extBut D.TOi2.symm) (((hl2.e b1.extBut D.l2z).e b2.extBut D.l2i1).e b3.extBut D.l2TO) hy fun g4 e b4 ⟨oe, he, ce⟩ => ?_))))
    have z4 : IsZip g4 z TI TO .ellipsis := b4 _ _ D.i2z.symm (b3.extBut _ _ D.TOz.symm (b2.extBut _ _ D.i1z.symm z1))
    have ez : e ≠ z := fun q => by subst q; rw [z4] at he; cases he; simp at ce
    exact wpAny_setField_rec z4 (by simp) fun g5 _ b5 => hE g5 e (fun c o c1 c2 c3 c4 q => b5.extBut _ _ c1 (b4 _ _ c4 (b3.extBut _ _ c2 (b2.extBut _ _ c3 (b1.extBut _ _ c1 q))))) ⟨oe, b5.extBut _ _ ez he, ce⟩
end
end PD


set_option Elab.async false
set_option linter.all false
set_option maxRecDepth 100000
set_option maxHeartbeats 4000000
set_option autoImplicit false
namespace PD
open PySem L2
def kNm : Bool → String
  | true => "tuple_iterator"
  | false => "list_iterator"
abbrev zkA (t1 : Bool) (h : Heap) (l1 : Addr) : Heap := h.push { cls := .type (kNm t1), data := .fields #[.ref l1, .int 0 0] }
abbrev zkB (t1 t2 : Bool) (h : Heap) (l1 l2 : Addr) : Heap := (zkA t1 h l1).push { cls := .type (kNm t2), data := .fields #[.ref l2, .int 0 0] }
abbrev zkC (t1 t2 : Bool) (h : Heap) (l1 l2 : Addr) : Heap := (zkB t1 t2 h l1 l2).push { cls := .type "tuple", data := .seq #[.ref h.objs.size, .ref (zkA t1 h l1).objs.size] }
abbrev zkD (t1 t2 : Bool) (h : Heap) (l1 l2 : Addr) : Heap := (zkC t1 t2 h l1 l2).push { cls := .type "tuple", data := .seq #[.none, .none] }
abbrev zkE (t1 t2 : Bool) (h : Heap) (l1 l2 : Addr) : Heap := (zkD t1 t2 h l1 l2).push { cls := .type "zip", data := .fields #[.none, .bool false, .bool false, .ref (zkB t1 t2 h l1 l2).objs.size, .ref (zkC t1 t2 h l1 l2).objs.size] }
theorem zk_new (t1 t2 : Bool) (l1 l2 : Addr) (xs ys : Array Value) : Meets (Builtin.«zip.__new__» ⟨[.type "zip", .ref l1, .ref l2], []⟩) (fun _ R s => SqK t1 s.heap l1 xs ∧ SqK t2 s.heap l2 ys ∧ R (.ok (.ret (.ref (zkD t1 t2 s.heap l1 l2).objs.size))) { s with heap := zkE t1 t2 s.heap l1 l2 }) :=
  .of_wp fun prog w A R s h => by
    obtain ⟨hp, g, d, tk, os⟩ := s
    obtain ⟨hl1, hl2, h⟩ := h
    have hsub := sub_zip
    cases t1
    · have a1 : Heap.IsList (Shared.heap ⟨hp, g, d, tk, os⟩) l1 xs := hl1
      cases t2
      · have a2 : Heap.IsList (Shared.heap ⟨hp.push { cls := .type "list_iterator", data := .fields #[.ref l1, .int 0 0] }, g, d, tk, os⟩) l2 ys := Heap.IsList.push hl2 _
        wp_walk using wpAny_pyIter_list a1, wpAny_pyIter_list a2
        exact ⟨_, rfl, h⟩
      · have a2 : Heap.IsTuple (Shared.heap ⟨hp.push { cls := .type "list_iterator", data := .fields #[.ref l1, .int 0 0] }, g, d, tk, os⟩) l2 ys := Heap.IsTuple.push hl2 _
        wp_walk using wpAny_pyIter_list a1, wpAny_pyIter_tuple a2
        exact ⟨_, rfl, h⟩
    · have a1 : Heap.IsTuple (Shared.heap ⟨hp, g, d, tk, os⟩) l1 xs := hl1
      cases t2
      · have a2 : Heap.IsList (Shared.heap ⟨hp.push { cls := .type "tuple_iterator", data := .fields #[.ref l1, .int 0 0] }, g, d, tk, os⟩) l2 ys := Heap.IsList.push hl2 _
        wp_walk using wpAny_pyIter_tuple a1, wpAny_pyIter_list a2
        exact ⟨_, rfl, h⟩
      · have a2 : Heap.IsTuple (Shared.heap ⟨hp.push { cls := .type "tuple_iterator", data := .fields #[.ref l1, .int 0 0] }, g, d, tk, os⟩) l2 ys := Heap.IsTuple.push hl2 _
        wp_walk using wpAny_pyIter_tuple a1, wpAny_pyIter_tuple a2
        exact ⟨_, rfl, h⟩
section
variable {prog : Program} {w : World} {A : Around} {E : Value → Shared → Prop} {s : Shared} {t1 t2 : Bool}
theorem itk_new {t : Bool} {h : Heap} {it l : Addr} (e : h.get? it = some { cls := .type (kNm t), data := .fields #[.ref l, .int 0 0] }) : ItK t h it l 0 := by
  cases t
  · exact ⟨_, e, rfl, rfl⟩
  · exact ⟨_, e, rfl, rfl⟩
theorem zk_call {l1 l2 : Addr} {xs ys : Array Value} {Q : Value → Shared → Prop} (hl1 : SqK t1 s.heap l1 xs) (hl2 : SqK t2 s.heap l2 ys)
    (h : ∀ h', IsZip h' (s.heap.objs.size + 4) (s.heap.objs.size + 2) (s.heap.objs.size + 3) .none → IsPair h' (s.heap.objs.size + 2) (.ref s.heap.objs.size) (.ref (s.heap.objs.size + 1)) → IsPair h' (s.heap.objs.size + 3) .none .none → ItK t1 h' s.heap.objs.size l1 0 → ItK t2 h' (s.heap.objs.size + 1) l2 0 → (∀ c o, s.heap.get? c = some o → h'.get? c = some o) → Q (.ref (s.heap.objs.size + 4)) { s with heap := h' }) :
    wpAny (model prog w) A (call (.type "zip") [.ref l1, .ref l2]) Q E s := by
  refine callType_new F.called_zip (by decide) (F.typeCall_zip_2 _ _) (F.newCall_zip_2 _ _) (fun obj => F.args_object_init_3 obj _ _) F.entry_zip_new (zk_new t1 t2 l1 l2 xs ys) ⟨hl1, hl2, ?_⟩
  have e1 : (zkA t1 s.heap l1).objs.size = s.heap.objs.size + 1 := Heap.size_push ..
  have e2 : (zkB t1 t2 s.heap l1 l2).objs.size = s.heap.objs.size + 2 := by rw [Heap.size_push, e1]
  have e3 : (zkC t1 t2 s.heap l1 l2).objs.size = s.heap.objs.size + 3 := by rw [Heap.size_push, e2]
  have e4 : (zkD t1 t2 s.heap l1 l2).objs.size = s.heap.objs.size + 4 := by rw [Heap.size_push, e3]
  have g5 : (zkE t1 t2 s.heap l1 l2).get? (zkD t1 t2 s.heap l1 l2).objs.size = some _ := Heap.get?_push_size _ rfl
  have g4 : (zkE t1 t2 s.heap l1 l2).get? (zkC t1 t2 s.heap l1 l2).objs.size = some _ := Heap.get?_push_of_some _ (Heap.get?_push_size _ rfl)
  have g3 : (zkE t1 t2 s.heap l1 l2).get? (zkB t1 t2 s.heap l1 l2).objs.size = some _ := Heap.get?_push_of_some _ (Heap.get?_push_of_some _ (Heap.get?_push_size _ rfl))
  have g2 : (zkE t1 t2 s.heap l1 l2).get? (zkA t1 s.heap l1).objs.size = some _ := Heap.get?_push_of_some _ (Heap.get?_push_of_some _ (Heap.get?_push_of_some _ (Heap.get?_push_size _ rfl)))
  have g1 : (zkE t1 t2 s.heap l1 l2).get? s.heap.objs.size = some _ := Heap.get?_push_of_some _ (Heap.get?_push_of_some _ (Heap.get?_push_of_some _ (Heap.get?_push_of_some _ (Heap.get?_push_size _ rfl))))
  show _ ∧ _
  rw [e2, e3, e4] at g5; rw [e1, e2] at g3; rw [e3] at g4; rw [e1] at g2; rw [e4]
  exact ⟨⟨_, g5, rfl⟩, h _ g5 g3 g4 (itk_new g1) (itk_new g2) fun c o x => Heap.get?_push_of_some _ (Heap.get?_push_of_some _ (Heap.get?_push_of_some _ (Heap.get?_push_of_some _ (Heap.get?_push_of_some _ x))))⟩
variable {z TI TO i1 i2 l1 l2 : Addr} {k1 k2 : Nat} {xs ys : Array Value}
theorem zk_nx {x y a b : Value} {Q : Option Value → Shared → Prop} (D : ZipApart z TI TO i1 i2 l1 l2) (hz : IsZip s.heap z TI TO .none) (hTI : IsPair s.heap TI (.ref i1) (.ref i2)) (hTO : IsPair s.heap TO a b) (h1 : ItK t1 s.heap i1 l1 k1) (h2 : ItK t2 s.heap i2 l2 k2) (hl1 : SqK t1 s.heap l1 xs) (hl2 : SqK t2 s.heap l2 ys) (hx : xs[k1]? = some x) (hy : ys[k2]? = some y)
    (hQ : ∀ h', IsZip h' z TI TO (rawInt s.heap.objs.size) → IsPair h' TO x y → ItK t1 h' i1 l1 (k1 + 1) → ItK t2 h' i2 l2 (k2 + 1) → IsPair h' s.heap.objs.size x y → (∀ c o, c ≠ z → c ≠ TO → c ≠ i1 → c ≠ i2 → s.heap.get? c = some o → h'.get? c = some o) → Q (some (.ref s.heap.objs.size)) { s with heap := h' }) : wpAny (model prog w) A (pyNext (.ref z)) Q E s := by
  have hT : s.TypeIs (.ref z) "zip" := ⟨_, hz, rfl⟩
  unfold pyNext; exact wpAny_bind (wpAny_attempt (wpAny_callSpecial?_slot (name := Str.ofString "__next__") hT F.slot_zip_next (wpAny_call_entry F.slot_zip_next hT F.entry_zip_next (zk_item D hz hTI hTO h1 h2 hl1 hl2 hx hy fun h' a1 a2 a3 a4 a5 a6 => wpAny_pure (hQ h' a1 a2 a3 a4 a5 a6)) (F.args_zip_next_1 _))))
theorem zk_nx0 {a b : Value} {Q : Option Value → Shared → Prop} (hh : A.handled = none) (D : ZipApart z TI TO i1 i2 l1 l2) (hz : IsZip s.heap z TI TO .none) (hTI : IsPair s.heap TI (.ref i1) (.ref i2)) (hTO : IsPair s.heap TO a b) (h1 : ItK t1 s.heap i1 l1 k1) (h2 : ItK t2 s.heap i2 l2 k2) (hl1 : SqK t1 s.heap l1 xs) (hl2 : SqK t2 s.heap l2 ys) (hend : xs[k1]? = none ∨ ys[k2]? = none)
    (hQ : ∀ h', (∀ c o, c ≠ z → c ≠ TO → c ≠ i1 → c ≠ i2 → s.heap.get? c = some o → h'.get? c = some o) → Q none { s with heap := h' }) : wpAny (model prog w) A (pyNext (.ref z)) Q E s := by
  have hT : s.TypeIs (.ref z) "zip" := ⟨_, hz, rfl⟩
  unfold pyNext; refine wpAny_bind (wpAny_attempt (wpAny_callSpecial?_slot (name := Str.ofString "__next__") hT F.slot_zip_next (wpAny_call_entry F.slot_zip_next hT F.entry_zip_next (zk_end hh D hz hTI hTO h1 h2 hl1 hl2 hend fun h' e hk ⟨o, ho, hc⟩ => ?_) (F.args_zip_next_1 _))))
  exact wpAny_bind (wpAny_isInstance (T := "StopIteration") (b := true) ⟨o, ho, hc⟩ isSubtype_stop (wpAny_pure (hQ _ hk)))
end
end PD


set_option Elab.async false
set_option linter.all false
set_option maxRecDepth 100000
set_option maxHeartbeats 4000000
set_option autoImplicit false
namespace PD
open PySem L2
/-- a thing to walk, by kind -/
def SqX (t : Bool) (K : PySem.W.Frag) (H : Hp) (a : Addr) (xs : List V) : Prop := match t with
  | true => SqT K H a xs
  | false => SqL K H a xs
theorem inv_sq {X : Cx} {pins : List (Addr × Obj)} {σ : St} {H : Hp} {s : Shared} {t : Bool} {a : Addr} {xs : List V} (I : Inv X pins σ H s) (h : SqX t X.K H a xs) : ∃ its : List Value, Vals xs its ∧ SqK t s.heap a its.toArray ∧ a < s.heap.objs.size := by
  cases t
  · obtain ⟨its, r, p, _⟩ := I.list h
    exact ⟨its, r, p.isList, p.lt⟩
  · obtain ⟨its, r, p, _⟩ := I.tuple h
    obtain ⟨o, ho, _⟩ := id p
    exact ⟨its, r, p, Heap.lt_size ho⟩
theorem sq_inj {X : Cx} {pins : List (Addr × Obj)} {σ : St} {H : Hp} {s : Shared} {t : Bool} {a : Addr} {xs ys : List V} (I : Inv X pins σ H s) (h : SqX t X.K H a xs) (h' : SqX t X.K H a ys) : xs = ys := by
  cases t
  · exact I.list_inj h h'
  · exact I.tuple_inj h h'
def ItzK (t1 t2 : Bool) (K : PySem.W.Frag) (a b : Addr) : It :=
  ⟨fun i H => ∃ (xs ys : List V) (x y : V), SqX t1 K H a xs ∧ SqX t2 K H b ys ∧ xs[i]? = some x ∧ ys[i]? = some y,
    fun i H v H' => ∃ T x y, v = .ref T ∧ H T = none ∧ H' = upd H T (.tup [x, y]) ∧ (∀ xs, SqX t1 K H a xs → xs[i]? = some x) ∧ ∀ ys, SqX t2 K H b ys → ys[i]? = some y,
    fun i H => ∃ xs ys : List V, SqX t1 K H a xs ∧ SqX t2 K H b ys ∧ (xs.length ≤ i ∨ ys.length ≤ i)⟩
theorem turn_zk {P : Program} {w : World} {K : PySem.W.Frag} {elts : List Expr} {kk : Nat} {tpos : Pos} {t1 t2 : Bool} {a b z TI TO i1 i2 : Addr} (D : ZipApart z TI TO i1 i2 a b) :
    Turn P w K (.Tuple elts kk tpos) (ItzK t1 t2 K a b) [z, TI, TO, i1, i2] z (fun i h => IsZip h z TI TO .none ∧ IsPair h TI (.ref i1) (.ref i2) ∧ (∃ x y, IsPair h TO x y) ∧ ItK t1 h i1 a i ∧ ItK t2 h i2 b i) where
  mem := by simp
  obj := fun i h ⟨hz, hTI, ⟨x, y, hTO⟩, n1, n2⟩ c hc => by
    obtain ⟨p1, fs1, e1, d1⟩ := n1.ob
    obtain ⟨p2, fs2, e2, d2⟩ := n2.ob
    have hc : c = z ∨ c = TI ∨ c = TO ∨ c = i1 ∨ c = i2 := by simpa using hc
    rcases hc with rfl | rfl | rfl | rfl | rfl
    · exact ⟨_, hz, fun v q => nomatch q⟩
    · exact ⟨_, hTI, fun v q => nomatch q⟩
    · exact ⟨_, hTO, fun v q => nomatch q⟩
    · exact ⟨p1, e1, fun v q => by rw [d1] at q; cases q⟩
    · exact ⟨p2, e2, fun v q => by rw [d2] at q; cases q⟩
  keep := fun i h h' ⟨hz, hTI, ⟨x, y, hTO⟩, n1, n2⟩ k => ⟨k z (by simp) _ hz, k TI (by simp) _ hTI, ⟨x, y, k TO (by simp) _ hTO⟩, n1.at fun o q => k i1 (by simp) o q, n2.at fun o q => k i2 (by simp) o q⟩
  item := by
    intro X hP hw hK hc i pins s σ H E I hf st hg
    subst hP hw hK
    obtain ⟨hz, hTI, ⟨x0, y0, hTO⟩, n1, n2⟩ := st
    obtain ⟨xs, ys, x, y, qx, qy, hx, hy⟩ := hg
    obtain ⟨us, rv, p, _⟩ := inv_sq I qx
    obtain ⟨us2, rv2, p2, _⟩ := inv_sq I qy
    obtain ⟨u, hu, ru⟩ := rv.get hx
    obtain ⟨u2, hu2, ru2⟩ := rv2.get hy
    have zl : z < s.heap.objs.size := Heap.lt_size hz
    refine zk_nx D hz hTI hTO n1 n2 p p2 (x := u) (y := u2) (by simpa using hu) (by simpa using hu2) fun g z1 o1 m1 m2 hT hk => ⟨_, rfl, wpAny_letOwnedTupleGo_zip (s := { s with heap := g }) z1 fun g2 z2 sb => ?_⟩
    have hT2 : g2.get? s.heap.objs.size = some { cls := .type "tuple", data := .seq #[u, u2] } := (sb.2 _ (Nat.ne_of_gt zl)).trans hT
    have nw : ObjOk X.prog X.w (upd H s.heap.objs.size (.tup [x, y])) g2 s.heap.objs.size (.tup [x, y]) := ⟨(by decide : 2 ≤ sizeLine), [u, u2], .cons ru (.cons ru2 .nil), ⟨_, hT2, rfl, _, rfl⟩⟩
    have I1 : Inv X pins σ (upd H s.heap.objs.size (.tup [x, y])) { s with heap := g2 } := I.turnedNew (t' := s.toks) (ch := [z, TI, TO, i1, i2]) (fun c o hb q => (sb.2 c (fun q' => hb (by simp [q']))).trans (hk c o (fun q' => hb (by simp [q'])) (fun q' => hb (by simp [q'])) (fun q' => hb (by simp [q'])) (fun q' => hb (by simp [q'])) q)) hf (Nat.le_refl _) nw
    refine ⟨.ref s.heap.objs.size, _, I1, rfl, ⟨_, x, y, rfl, I.hok.fresh (Nat.le_refl _), rfl, fun l hl => by rw [sq_inj I hl qx]; exact hx, fun l hl => by rw [sq_inj I hl qy]; exact hy⟩, ⟨z2, ?_, ⟨u, u2, (sb.2 _ D.TOz).trans o1⟩, m1.at fun o q => (sb.2 _ D.i1z).trans q, m2.at fun o q => (sb.2 _ D.i2z).trans q⟩, fun c hcm => ?_⟩
    · exact (sb.2 _ D.TIz).trans (hk _ _ D.TIz D.TITO D.TIi1 D.TIi2 hTI)
    · have hlt : c < s.heap.objs.size := by
        obtain ⟨p1, fs1, e1, _⟩ := n1.ob
        obtain ⟨p2, fs2, e2, _⟩ := n2.ob
        have hcm : c = z ∨ c = TI ∨ c = TO ∨ c = i1 ∨ c = i2 := by simpa using hcm
        rcases hcm with rfl | rfl | rfl | rfl | rfl
        · exact zl
        · exact Heap.lt_size hTI
        · exact Heap.lt_size hTO
        · exact Heap.lt_size e1
        · exact Heap.lt_size e2
      rw [upd_ne (Nat.ne_of_lt hlt)]
      exact (hf c hcm).1
  done := by
    intro X hP hw hK hc i pins s σ H E I hf st hg
    subst hP hw hK
    obtain ⟨hz, hTI, ⟨x0, y0, hTO⟩, n1, n2⟩ := st
    obtain ⟨xs, ys, qx, qy, hend⟩ := hg
    obtain ⟨us, rv, p, _⟩ := inv_sq I qx
    obtain ⟨us2, rv2, p2, _⟩ := inv_sq I qy
    have e1 := rv.length
    have e2 := rv2.length
    refine zk_nx0 (I.ok.hd hc) D hz hTI hTO n1 n2 p p2 ?_ fun g hk => ⟨rfl, I.turnedL (t' := s.toks) (ch := [z, TI, TO, i1, i2]) (fun c o hb q => hk c o (fun q' => hb (by simp [q'])) (fun q' => hb (by simp [q'])) (fun q' => hb (by simp [q'])) (fun q' => hb (by simp [q'])) q) hf⟩
    rcases hend with q | q
    · exact .inl (by simp; omega)
    · exact .inr (by simp; omega)
  self := fun A i s Q E st h => wpAny_pyIter_zip st.1 h
def iZipK (K : PySem.W.Frag) (ta : TA) : TI := fun σ H R => ta σ H fun vs H1 => ∃ t1 t2 a b xs ys, vs = [.ref a, .ref b] ∧ SqX t1 K H1 a xs ∧ SqX t2 K H1 b ys ∧ R (ItzK t1 t2 K a b) H1
theorem pi_zipK {X : Cx} {e e2 : Expr} {ta : TA} {p pos tpos : Pos} {elts : List Expr} {kk : Nat} (hg : Gl X "zip") (hm : X.mg "zip" = none) (ha : PA X [e, e2] ta) (hs : starEach [e, e2] X.env = (false, eval e X.env) :: starEach [e2] X.env := by rfl) (hpl : (backTo pos (starEach [e2] X.env)).any (·.1) = false := by rfl) : PI X (.Tuple elts kk tpos) (.Call (.Name "zip" p) [e, e2] [] pos) (iZipK X.K ta) := by
  refine ⟨fun pins s σ H R I h => PyProof.Rows.Call_ (ld_blt I hg hm PyProof.Rows.boot_zip (PyProof.Rows.callWith_type1 (thn (ha.run pos pins s σ H _ I h) fun us s1 ⟨vs, H1, I1, r1, t1, t2, a, b, xs, ys, ex, qx, qy, q⟩ => ?_) hs hpl))⟩
  subst ex
  cases r1 with
  | cons r rr =>
    cases rr with
    | cons r' rr =>
      cases rr; cases r; cases r'
      obtain ⟨its, rv, p1, la⟩ := inv_sq I1 qx
      obtain ⟨its2, rv2, p2, lb⟩ := inv_sq I1 qy
      refine zk_call p1 p2 fun g hz hTI hTO n1 n2 hk => wpAny_pyIter_zip hz ?_
      have I2 : Inv X pins σ H1 { s1 with heap := g } := I1.kept (t' := s1.toks) hk
      refine ⟨s1.heap.objs.size + 4, [s1.heap.objs.size + 4, s1.heap.objs.size + 2, s1.heap.objs.size + 3, s1.heap.objs.size, s1.heap.objs.size + 1], _, _, H1, rfl, I2, turn_zk (PySem.W.ktu_apart s1.heap.objs.size a b la lb), ⟨hz, hTI, ⟨_, _, hTO⟩, n1, n2⟩, fun c hc => ?_, q⟩
      have hle : s1.heap.objs.size ≤ c := by
        simp only [List.mem_cons, List.not_mem_nil, or_false] at hc
        rcases hc with z | z | z | z | z <;> rw [z]
        · exact Nat.le_add_right _ _
        · exact Nat.le_add_right _ _
        · exact Nat.le_add_right _ _
        · exact Nat.le_refl _
        · exact Nat.le_add_right _ _
      exact I1.fpOk hle (I1.hok.fresh hle)
/-! ## the rule -/
section
variable {X : Cx} {W : WX} {sc : Scope} {N : List Str} {e e2 : Expr} {pos p : Pos} {f g : DF}
theorem itd_zk {K : PySem.W.Frag} {G : Gh} {H : Hp} {t1 t2 : Bool} {a b : Addr} {xs ys : List V} {ds es : List PyData} {fr : Bool} (sq : ∀ G2 H2, Le G H G2 H2 → SqX t1 K H2 a xs) (hd : DnA K (rg G fr) H xs ds) (sq' : ∀ G2 H2, Le G H G2 H2 → SqX t2 K H2 b ys) (hd' : DnA K (rg G fr) H ys es) : ItD K G H (ItzK t1 t2 K a b) (zipD ds es) fr := by
  have hl := hd.length
  have hl' := hd'.length
  have hl2 : (zipD ds es).length = min xs.length ys.length := by unfold zipD; simp [hl, hl']
  refine ⟨fun i G2 H2 hi e => ?_, fun i G2 H2 σ Γ v H3 hi e S y => ?_, fun G2 H2 e => ⟨xs, ys, sq G2 H2 e, sq' G2 H2 e, by rw [hl2]; omega⟩⟩
  · rw [hl2] at hi
    exact ⟨xs, ys, xs[i]'(by omega), ys[i]'(by omega), sq G2 H2 e, sq' G2 H2 e, by simp, by simp⟩
  · obtain ⟨T, x, z, rfl, hT, rfl, hy, hy'⟩ := y
    obtain ⟨d, h1, h2⟩ := (e.dna hd).get (hy xs (sq G2 _ e))
    obtain ⟨d', h1', h2'⟩ := (e.dna hd').get (hy' ys (sq' G2 _ e))
    obtain ⟨G3, e3, S3, h3⟩ := sta_pair S hT h2 h2'
    refine ⟨G3, _, ?_, e3, S3, h3⟩
    unfold zipD
    rw [List.getElem?_zipWith, h1, h1']
theorem seqA_sq {G : Gh} {H : Hp} {σ : St} {v : V} {x : AV} {y : List PyData × Bool} (h : seqA x = some y) (w : Wf G H) (hv : AVok X.K G H σ v x) : ∃ (t : Bool) (a : Addr) (xs : List V), v = .ref a ∧ (∀ G2 H2, Le G H G2 H2 → SqX t X.K H2 a xs) ∧ SqX t X.K H a xs ∧ DnA X.K (rg G y.2) H xs y.1 := by
  unfold seqA at h
  split at h
  · rename_i fr ds
    cases h
    obtain ⟨l, xs, rfl, g1, g2⟩ := dn_list hv
    exact ⟨false, l, xs, rfl, fun G2 H2 e => ((g1.mono (e.rgl fr)).mono (e.w.rgl fr)).sq, (g1.mono (w.rgl fr)).sq, g2⟩
  · rename_i fr ds
    cases h
    obtain ⟨l, xs, rfl, g1, g2⟩ := dn_tupleH hv
    exact ⟨true, l, xs, rfl, fun G2 H2 e => SqT.of (e.t _ _ g1), SqT.of g1, g2⟩
  · cases h
def iZipX (f g : DF) : DI := fun Γ => (f Γ).bind fun x => (g x.2).bind fun y => (R.ofO (seqA x.1)).bind fun a => (R.ofO (seqA y.1)).bind fun b => .val ((zipD a.1 b.1, a.2 && b.2), y.2)
theorem ci_zipX (C : Cf0 X W sc N) {elts : List Expr} {kk : Nat} {tpos : Pos} (hg : glB sc "zip" = true) (hm : X.mg "zip" = none) (ha : CE X W e f) (hb : CE X W e2 g) (hs : starEach [e, e2] X.env = (false, eval e X.env) :: starEach [e2] X.env := by rfl) (hs2 : starEach [e2] X.env = (false, eval e2 X.env) :: starEach [] X.env := by rfl)
    (hpl : (backTo pos (starEach [e2] X.env)).any (·.1) = false := by rfl) : CI X W (.Tuple elts kk tpos) (.Call (.Name "zip" p) [e, e2] [] pos) (iZipX f g) := fun Γ =>
  pi_imp (pi_zipK (C.gl hg) hm (pa_cons (ha Γ) (pa_cons (pe_any fun x : AV × List Sl => hb x.2) pa_nil hs2) hs) hs hpl) fun σ H Q ⟨G, S, q⟩ => ⟨G, S, (Pst.bind q).imp fun x G1 H1 e1 q1 v S1 hv => ⟨x, G1, S1, (Pst.bind q1).imp fun y G2 H2 e2 q2 u S2 hu => by
    obtain ⟨a, ha', q2⟩ := Pst.ofO q2
    obtain ⟨b, hb', q2⟩ := Pst.ofO q2
    have q2 : ∀ J, Sta X.K G2 H2 σ y.2 → ItD X.K G2 H2 J (zipD a.1 b.1) (a.2 && b.2) → Q J H2 := q2 G2 H2 (Ext.rf S2.w)
    obtain ⟨t1, l1, xs, rfl, s1, s1', d1⟩ := seqA_sq ha' S2.w (hv.ext e2)
    obtain ⟨t2, l2, ys, rfl, s2, s2', d2⟩ := seqA_sq hb' S2.w hu
    exact ⟨t1, t2, l1, l2, xs, ys, rfl, s1', s2', q2 _ S2 (itd_zk s1 (d1.mono (rg_and1 G2 a.2 b.2) (TupLe.rf _)) s2 (d2.mono (rg_and2 G2 a.2 b.2) (TupLe.rf _)))⟩⟩⟩
end
end PD


set_option Elab.async false
set_option linter.all false
set_option maxRecDepth 100000
set_option maxHeartbeats 4000000
set_option autoImplicit false
namespace PD
open PySem L2
/-- a name that a comprehension holds is no plain local -/
def celB (sc : Scope) (y : Str) : Bool := match sc.names.lookup y with
  | some .local => false
  | _ => true
theorem sw_cel {X : Cx} {W : WX} {sc : Scope} {N : List Str} (C : Cf0 X W sc N) {y : Str} {py pos : Pos} {elt : Expr} {gens : List Comprehension} {scope : Scope} {line : Nat} (h : celB sc y = true) : swapsWith (.ListComp elt gens scope pos) (some (.Name y py)) line X.env = pure false := by
  have hk : (X.env.kindOf y == some .local) = false := by
    have e : X.env.kindOf y = sc.names.lookup y := by rw [← C.hsc]; rfl
    rw [e]
    unfold celB at h
    split at h
    · cases h
    · rename_i hn
      cases hl : sc.names.lookup y with
      | none => rfl
      | some k => cases k <;> first | rfl | exact absurd hl hn
  show (pure (X.env.blockKind == .function && X.env.kindOf y == some .local && _ && _) : Sem Bool) = _
  rw [hk]
  simp
end PD


set_option Elab.async false
set_option linter.all false
set_option maxRecDepth 100000
set_option maxHeartbeats 4000000
set_option autoImplicit false
namespace PD
open PySem L2
/-! ## f(a new cell, written numbers) -/
section
variable {X : Cx} {W : WX} {sc : Scope} {N : List Str} {e : Expr} {es : List Expr} {pos p : Pos} {x : Str} {dvs : List V} {dds : List PyData} {m : List Ar → R (Rs × List Sl)}
/-- written numbers as arguments -/
def CNum (X : Cx) (es : List Expr) (cs : List Int) : Prop := PA X es (fun _ H Q => Q (cs.map V.int) H)
theorem cnum_nil : CNum X [] [] := ⟨fun pos pins s σ H Q I h => (pa_nil : PA X [] tNil).run pos pins s σ H Q I h⟩
theorem cnum_cons {c : Int} {j : Nat} {cp : Pos} {cs : List Int} (h : CNum X es cs) (hs : starEach (.Constant (.int c) j cp :: es) X.env = (false, eval (.Constant (.int c) j cp) X.env) :: starEach es X.env := by rfl) : CNum X (.Constant (.int c) j cp :: es) (c :: cs) :=
  ⟨fun pos pins s σ H Q I q => (pa_cons (pe_int (X := X)) h hs).run pos pins s σ H Q I q⟩
def arN (c : Cl) (cs : List Int) (dds : List PyData) : List Ar := .c c :: ((cs.map PyData.int) ++ dds).map Ar.d
def xCallN (m : List Ar → R (Rs × List Sl)) (dds : List PyData) (n0 : DC) (cs : List Int) : DX := fun Γ => (n0 Γ).bind fun z => (R.req z.1.fl).bind fun _ => ((m (arN z.1 cs dds)).atX z.2).bind fun r => .val (r.1, z.2)
theorem args_new {K : PySem.W.Frag} {H2 : Hp} {v : V} {c : Cl} {cs : List Int} {fp : List Addr} {B : Hp} (hc : c.ok K (RN B) H2 v fp) (hB : ∀ a o, B a = some o → H2 a = some o ∧ a ∉ fp) (al : ∀ p ∈ fp, H2 p ≠ none) (hdv : DnA K (fun a o => H2 a = some o ∧ a ∉ fp) H2 dvs dds) :
    ArgsU K H2 (v :: (cs.map V.int ++ dvs)) (arN c cs dds) (fun i => if i = 0 then fp else []) fp B where
  len := by
    have := hdv.length
    simp [arN, this]
  dat := fun i y hy => by
    cases i with
    | zero => simp [arN] at hy
    | succ i =>
      have hd : DnA K (fun a o => H2 a = some o ∧ a ∉ fp) H2 (cs.map V.int ++ dvs) (cs.map PyData.int ++ dds) := (ints_dna cs).append hdv
      have hy : ((cs.map PyData.int ++ dds).map Ar.d)[i]? = some (.d y) := by simpa [arN] using hy
      obtain ⟨w, h1, h2⟩ := dna_at hd hy
      exact ⟨w, by simpa using h1, h2⟩
  cel := fun i c' hy => by
    cases i with
    | zero =>
      have : c = c' := by simpa [arN] using hy
      subst this
      exact ⟨v, rfl, by simpa using hc⟩
    | succ i =>
      have hy : ((cs.map PyData.int ++ dds).map Ar.d)[i]? = some (.c c') := by simpa [arN] using hy
      rw [List.getElem?_map] at hy
      cases h : (cs.map PyData.int ++ dds)[i]? with
      | none => rw [h] at hy; cases hy
      | some z => rw [h] at hy; cases hy
  emp := fun i h => by
    cases i with
    | zero => exact absurd rfl (h c)
    | succ i => simp
  all := fun i q hq => by
    cases i with
    | zero => simpa using hq
    | succ i => simp at hq
  al := al
  dj := fun i j q hi hj => by
    cases i with
    | zero => cases j with
      | zero => rfl
      | succ j => simp at hj
    | succ i => simp at hi
  nat := fun i y hy => by
    cases i with
    | zero => simp [arN] at hy
    | succ i =>
      have hy : ((cs.map PyData.int ++ dds).map Ar.d)[i]? = some (.n y) := by simpa [arN] using hy
      rw [List.getElem?_map] at hy
      cases h : (cs.map PyData.int ++ dds)[i]? with
      | none => rw [h] at hy; cases hy
      | some z => rw [h] at hy; cases hy
  bok := hB
theorem cx_callN (C : Cf0 X W sc N) {n0 : DC} {cs : List Int} (hc : Clee X x dvs (spU X.K X.mg m)) (hg : glB sc x = true) (hdv : ∀ G H, DnA X.K G H dvs dds) (h0 : CC X W e n0) (ha : CNum X es cs)
    (hdb : (x == ("__debug__" : Str)) = false := by decide +kernel) (he : starEach (e :: es) X.env = (false, eval e X.env) :: starEach es X.env := by rfl) (hpl : (backTo pos (starEach es X.env)).any (·.1) = false := by rfl) : CX X W (.Call (.Name x p) (e :: es) [] pos) (xCallN m dds n0 cs) := fun Γ => by
  obtain ⟨k', f, fd, ps, dss, F, hr, hm, hk, hb, hd⟩ := hc
  refine pe_imp (pe_callSD (E := fun σ cls d H => W cls d σ H) F hr (C.gl hg) hm hk hb hd (fun σ => passAt C.tk σ) (pa_cons (h0 Γ) ha he) hdb he hpl) fun σ H Q ⟨G, S, q⟩ => ⟨G, S, (Pst.bind q).imp fun z G1 H1 e1 p1 v H2 S1 nc => ?_⟩
  obtain ⟨hfl, p1⟩ := Pst.req p1
  obtain ⟨fp, n1, n2, n3⟩ := nc
  have hsub : ∀ a o, H1 a = some o → H2 a = some o ∧ a ∉ fp := fun a o h => by
    have : a ∉ fp := fun hf => by rw [(n2 a hf).1] at h; cases h
    exact ⟨by rw [n1 a this]; exact h, this⟩
  have hno : ∀ a, H2 a = none → H1 a = none := fun a h => by
    cases h1 : H1 a with
    | none => rfl
    | some o => rw [(hsub a o h1).1] at h; cases h
  refine ⟨_, _, _, G1.N, args_new (cs := cs) n3 (fun a o h => hsub a o (S1.w.new a o h).1) (fun p hp => (n2 p hp).2) (hdv _ _), ?_⟩
  cases hm' : m (arN z.1 cs dds) with
  | bad => rw [hm'] at p1; exact p1
  | exc y =>
    rw [hm'] at p1
    intro H' N' F' Cl' d P g1 g2
    obtain ⟨G', S', e', l⟩ := call_end S1 (fun a o h => P.keep a o (hsub a o h).1 (hsub a o h).2) (fun a o h => ⟨(P.new a o h).1, (P.new a o h).2.imp (hno a) id⟩)
    refine p1 G' H' σ Cl' d e' S' g1 ?_
    rcases g2 with ⟨a, fs, q1, q2, q3, q4⟩ | q
    · exact .inl ⟨a, fs, q1, l _ _ q2, q3, q4.mono l (TupLe.rf _)⟩
    · exact .inr q
  | val r =>
    rw [hm'] at p1
    intro H' N' F' P
    obtain ⟨G', S', e', l⟩ := call_end S1 (fun a o h => P.keep a o (hsub a o h).1 (hsub a o h).2) (fun a o h => ⟨(P.new a o h).1, (P.new a o h).2.imp (hno a) id⟩)
    have q := p1 G' H' e'
    obtain ⟨r1, r2⟩ := r
    cases r1 with
    | d y => exact fun w hw => q w S' (hw.mono l (TupLe.rf _))
    | c y => exact fun w H3 ⟨fp', k1, k2, k3⟩ => q w H3 S' ⟨fp', k1, k2, Cl.mono k3 l (fun _ _ => rfl) (TupLe.rf _)⟩
/-- what comes must be a new cell -/
def nX (f : DX) : DC := fun Γ => (f Γ).bind fun z => (R.ofO (rsC z.1)).bind fun c => .val (c, z.2)
theorem cc_x {f : DX} (h : CX X W e f) : CC X W e (nX f) := fun Γ => pe_imp (h Γ) fun σ H Q ⟨G, S, q⟩ => ⟨G, S, (Pst.bind q).imp fun z G1 H1 e1 p1 => by
  obtain ⟨r, Γ1⟩ := z
  cases r with
  | d y => exact p1.elim
  | c c =>
    intro v H2 S1 nc
    exact p1 G1 H1 (Ext.rf S1.w) v H2 S1 nc⟩
end
end PD


set_option Elab.async false
set_option linter.all false
set_option maxRecDepth 100000
set_option maxHeartbeats 4000000
set_option autoImplicit false
namespace PD
open PySem L2
theorem upd_twice {H : Hp} {p : Addr} {a b : HO} : upd (upd H p a) p b = upd H p b := by
  funext q
  by_cases h : q = p
  · subst h; rw [upd_same, upd_same]
  · rw [upd_ne h, upd_ne h, upd_ne h]
section
variable {X : Cx} {W : WX} {sc : Scope} {N : List Str} {e : Expr} {pos p1 : Pos} {x : Str}
/-- {x: c}: x a whole number, c written -/
def nDic1 (i : Nat) (d : PyData) : DC := fun Γ => (R.ofO (intS Γ[i]?)).bind fun k => .val (.dic .k [(.int k, d)], Γ)
theorem cc_dic1 (C : Cf0 X W sc N) (i : Nat) {v : V} {d : PyData} (hN : N[i]? = some x) (hv : visB sc x = true) (he : PE X e (tC v)) (hvd : ∀ G H, Dn X.K G H v d) (hd : (x == ("__debug__" : Str)) = false := by decide +kernel) (hcd : (x == ("__classdict__" : Str)) = false := by decide +kernel) :
    CC X W (.Dict [some (.Name x p1)] [e] pos) (nDic1 i d) := fun Γ =>
  pe_imp (pe_disp (pps_cons (pe_nm C hN hv hd hcd) he pps_nil) rfl rfl (by simp) (by simp)) fun σ H Q ⟨G, S, q⟩ => by
    obtain ⟨k, hk, q⟩ := Pst.ofO q
    have hs : ∃ fr, Γ[i]? = some (.dat fr (.int k)) := by
      unfold intS at hk
      split at hk
      · cases hk; exact ⟨_, ‹_›⟩
      · cases hk
    obtain ⟨fr, hs⟩ := hs
    obtain ⟨A, T⟩ := id S
    obtain ⟨_, u, hu1, hu2⟩ := T.sl i _ hs
    have hu2 := dn_int hu2
    subst hu2
    intro p hp
    refine ⟨.int k, hu1, ?_⟩
    refine ⟨upd_same, [(.inl k, v)], rfl, (by decide : 1 ≤ 15), ?_⟩
    rw [upd_twice]
    exact q G H (Ext.rf S.w) _ _ S (newc_dic (t := .k) (vs := [v]) hp ⟨[(.inl k, v)], rfl, rfl, rfl⟩ (.cons (hvd _ _) .nil))
end
end PD


set_option Elab.async false
set_option linter.all false
set_option maxRecDepth 100000
set_option maxHeartbeats 4000000
set_option autoImplicit false
/-! calls with arguments that are kept (frozen for ever) -/
namespace PD
open PySem L2
inductive ArsOk (K : PySem.W.Frag) (H : Hp) (R : Rg) (B : Hp) : List V → List Ar → Prop
  | nil : ArsOk K H R B [] []
  | d {v : V} {vs : List V} {x : PyData} {as : List Ar} : Dn K R H v x → ArsOk K H R B vs as → ArsOk K H R B (v :: vs) (.d x :: as)
  | n {v : V} {vs : List V} {x : PyData} {as : List Ar} : Dn K (RN B) H v x → ArsOk K H R B vs as → ArsOk K H R B (v :: vs) (.n x :: as)
section
variable {K : PySem.W.Frag} {H : Hp} {R : Rg} {B : Hp}
theorem ArsOk.length : ∀ {vs : List V} {as : List Ar}, ArsOk K H R B vs as → vs.length = as.length
  | _, _, .nil => rfl
  | _, _, .d _ r => by simp [r.length]
  | _, _, .n _ r => by simp [r.length]
theorem ArsOk.dat : ∀ {vs : List V} {as : List Ar} {i : Nat} {x : PyData}, ArsOk K H R B vs as → as[i]? = some (.d x) → ∃ v, vs[i]? = some v ∧ Dn K R H v x
  | _, _, _, _, .nil, e => by simp at e
  | _, _, 0, _, .d h _, e => by simp at e; subst e; exact ⟨_, rfl, h⟩
  | _, _, 0, _, .n h _, e => by simp at e
  | _, _, i + 1, x, .d _ r, e => by obtain ⟨v, h1, h2⟩ := r.dat (i := i) (x := x) (by simpa using e); exact ⟨v, by simpa using h1, h2⟩
  | _, _, i + 1, x, .n _ r, e => by obtain ⟨v, h1, h2⟩ := r.dat (i := i) (x := x) (by simpa using e); exact ⟨v, by simpa using h1, h2⟩
theorem ArsOk.nat : ∀ {vs : List V} {as : List Ar} {i : Nat} {x : PyData}, ArsOk K H R B vs as → as[i]? = some (.n x) → ∃ v, vs[i]? = some v ∧ Dn K (RN B) H v x
  | _, _, _, _, .nil, e => by simp at e
  | _, _, 0, _, .n h _, e => by simp at e; subst e; exact ⟨_, rfl, h⟩
  | _, _, 0, _, .d h _, e => by simp at e
  | _, _, i + 1, x, .d _ r, e => by obtain ⟨v, h1, h2⟩ := r.nat (i := i) (x := x) (by simpa using e); exact ⟨v, by simpa using h1, h2⟩
  | _, _, i + 1, x, .n _ r, e => by obtain ⟨v, h1, h2⟩ := r.nat (i := i) (x := x) (by simpa using e); exact ⟨v, by simpa using h1, h2⟩
theorem ArsOk.noc : ∀ {vs : List V} {as : List Ar} {i : Nat} {c : Cl}, ArsOk K H R B vs as → as[i]? ≠ some (.c c)
  | _, _, _, _, .nil, e => by simp at e
  | _, _, 0, _, .n h _, e => by simp at e
  | _, _, 0, _, .d h _, e => by simp at e
  | _, _, i + 1, x, .d _ r, e => r.noc (i := i) (c := x) (by simpa using e)
  | _, _, i + 1, x, .n _ r, e => r.noc (i := i) (c := x) (by simpa using e)
theorem ArsOk.app : ∀ {vs : List V} {as : List Ar} {ws : List V} {bs : List Ar}, ArsOk K H R B vs as → ArsOk K H R B ws bs → ArsOk K H R B (vs ++ ws) (as ++ bs)
  | _, _, _, _, .nil, b => b
  | _, _, _, _, .d h r, b => .d h (r.app b)
  | _, _, _, _, .n h r, b => .n h (r.app b)
theorem ArsOk.ofD : ∀ {vs : List V} {ds : List PyData}, DnA K R H vs ds → ArsOk K H R B vs (ds.map Ar.d)
  | _, _, .nil => .nil
  | _, _, .cons h r => .d h (ArsOk.ofD r)
theorem ArsOk.split : ∀ {v1 v2 : List V} {as : List Ar}, ArsOk K H R B (v1 ++ v2) as → ArsOk K H R B v1 (as.take v1.length) ∧ ArsOk K H R B v2 (as.drop v1.length)
  | [], v2, as, h => ⟨.nil, h⟩
  | v :: v1, v2, _, .d h r => by obtain ⟨q1, q2⟩ := ArsOk.split (v1 := v1) r; exact ⟨.d h q1, q2⟩
  | v :: v1, v2, _, .n h r => by obtain ⟨q1, q2⟩ := ArsOk.split (v1 := v1) r; exact ⟨.n h q1, q2⟩
theorem argsA {vs : List V} {as : List Ar} (h : ArsOk K H (fun a o => H a = some o ∧ a ∉ []) B vs as) (hB : ∀ a o, B a = some o → H a = some o) : ArgsU K H vs as (fun _ => []) [] B where
  len := h.length
  dat := fun i x hx => h.dat hx
  cel := fun i c hc => absurd hc h.noc
  emp := fun _ _ => rfl
  all := fun _ _ h => h
  al := fun p h => absurd h (by simp)
  dj := fun i j p h => absurd h (by simp)
  nat := fun i x hx => h.nat hx
  bok := fun a o h => ⟨hB a o h, by simp⟩
def insA (n : Nat) (c : Cl) (as : List Ar) : List Ar := as.take n ++ .c c :: as.drop n
theorem argsCA {v1 v2 : List V} {v : V} {as : List Ar} {c : Cl} {fp : List Addr} (h : ArsOk K H (fun a o => H a = some o ∧ a ∉ fp) B (v1 ++ v2) as) (hc : c.ok K (RN B) H v fp) (al : ∀ p ∈ fp, H p ≠ none) (hB : ∀ a o, B a = some o → H a = some o ∧ a ∉ fp) :
    ArgsU K H (v1 ++ v :: v2) (insA v1.length c as) (fun i => if i = v1.length then fp else []) fp B := by
  obtain ⟨h1, h2⟩ := h.split
  have l1 := h1.length
  have l2 := h2.length
  have e1 : (as.take v1.length).length = v1.length := l1.symm
  have get : ∀ (i : Nat) (y : Ar), (∀ c, y ≠ .c c) → (insA v1.length c as)[i]? = some y → (i < v1.length ∧ (as.take v1.length)[i]? = some y) ∨ ∃ q, i = v1.length + (q + 1) ∧ (as.drop v1.length)[q]? = some y := by
    intro i y hy hx
    unfold insA at hx
    by_cases hlt : i < v1.length
    · rw [List.getElem?_append_left (by rw [e1]; exact hlt)] at hx
      exact .inl ⟨hlt, hx⟩
    · rw [List.getElem?_append_right (by rw [e1]; omega), e1] at hx
      cases hk : i - v1.length with
      | zero =>
        rw [hk] at hx
        simp at hx
        exact absurd hx.symm (hy c)
      | succ q =>
        rw [hk, List.getElem?_cons_succ] at hx
        exact .inr ⟨q, by omega, hx⟩
  refine ⟨?_, fun i x hx => ?_, fun i c' hc' => ?_, fun i hi => ?_, fun i p hp => ?_, al, fun i j p hi hj => ?_, fun i x hx => ?_, hB⟩
  · unfold insA
    rw [List.length_append, List.length_append, List.length_cons, List.length_cons, e1, ← l2]
  · rcases get i _ (fun c z => by cases z) hx with ⟨q1, q2⟩ | ⟨q, rfl, q2⟩
    · rw [List.getElem?_append_left q1]; exact h1.dat q2
    · rw [List.getElem?_append_right (by omega), show v1.length + (q + 1) - v1.length = q + 1 by omega, List.getElem?_cons_succ]; exact h2.dat q2
  · unfold insA at hc'
    by_cases hlt : i < v1.length
    · rw [List.getElem?_append_left (by rw [e1]; exact hlt)] at hc'
      exact absurd hc' h1.noc
    · rw [List.getElem?_append_right (by rw [e1]; omega), e1] at hc'
      cases hk : i - v1.length with
      | zero =>
        rw [hk] at hc'
        cases hc'
        have : i = v1.length := by omega
        subst this
        exact ⟨v, by simp, by rw [if_pos rfl]; exact hc⟩
      | succ q =>
        rw [hk, List.getElem?_cons_succ] at hc'
        exact absurd hc' h2.noc
  · by_cases e : i = v1.length
    · subst e
      refine absurd ?_ (hi c)
      unfold insA
      rw [List.getElem?_append_right (by rw [e1]; exact Nat.le_refl _), e1, Nat.sub_self]
      rfl
    · exact if_neg e
  · by_cases e : i = v1.length
    · rw [if_pos e] at hp; exact hp
    · rw [if_neg e] at hp; cases hp
  · by_cases e : i = v1.length
    · by_cases e' : j = v1.length
      · rw [e, e']
      · rw [if_neg e'] at hj; cases hj
    · rw [if_neg e] at hi; cases hi
  · rcases get i _ (fun c z => by cases z) hx with ⟨q1, q2⟩ | ⟨q, rfl, q2⟩
    · rw [List.getElem?_append_left q1]; exact h1.nat q2
    · rw [List.getElem?_append_right (by omega), show v1.length + (q + 1) - v1.length = q + 1 by omega, List.getElem?_cons_succ]; exact h2.nat q2
end
/-- arguments by a mask: true: kept -/
def rdAs (Γ : List Sl) (i : Option Nat) : List Bool → List AV → Option (List Ar)
  | _, [] => some []
  | true :: ms, .d fr x :: as => if fr || flat x then (rdAs Γ i ms as).map (.n x :: ·) else none
  | true :: _, .s _ :: _ => none
  | false :: ms, .d _ x :: as => (rdAs Γ i ms as).map (.d x :: ·)
  | false :: ms, .s j :: as => if some j = i then none else (rdD Γ (.s j)).bind fun x => (rdAs Γ i ms as).map (.d x :: ·)
  | [], .d _ x :: as => (rdAs Γ i [] as).map (.d x :: ·)
  | [], .s j :: as => if some j = i then none else (rdD Γ (.s j)).bind fun x => (rdAs Γ i [] as).map (.d x :: ·)
theorem rdAs_ok {K : PySem.W.Frag} {G : Gh} {H : Hp} {σ : St} {Γ : List Sl} {i : Option Nat} {fp : List Addr} (S : Sta K G H σ Γ) (hr : ∀ fr a o, rg G fr a o → a ∉ fp) (hs : ∀ j es p vs, some j ≠ i → rdD Γ (.s j) = some (.list es) → σ[j]? = some (some (.ref p)) → H p = some (.lst vs) → p ∉ fp) :
    ∀ {ms : List Bool} {as : List AV} {ars : List Ar} {vs : List V}, rdAs Γ i ms as = some ars → AVs K G H σ vs as → ArsOk K H (fun a o => H a = some o ∧ a ∉ fp) G.N vs ars := by
  intro ms as
  have hd : ∀ {fr : Bool} {x : PyData} {v : V}, Dn K (rg G fr) H v x → Dn K (fun a o => H a = some o ∧ a ∉ fp) H v x := fun {fr x v} q => Dn.mono (fun b o z => ⟨S.w.rgl fr b o z, hr fr b o z⟩) (TupLe.rf _) q
  have hsl : ∀ {j : Nat} {x : PyData} {v : V}, ¬ some j = i → rdD Γ (.s j) = some x → σ[j]? = some (some v) → Dn K (fun a o => H a = some o ∧ a ∉ fp) H v x := fun {j x v} hj e1 q => by
    have hx : ∃ es, x = .list es := by
      unfold rdD at e1
      simp only at e1
      split at e1
      · cases e1; exact ⟨_, rfl⟩
      · cases e1; exact ⟨_, rfl⟩
      · cases e1
    obtain ⟨es, rfl⟩ := hx
    obtain ⟨p, vs, rfl, g1, g2⟩ := S.slotL e1 q
    exact .lst (.inl ⟨g1, hs j es p vs hj e1 q g1⟩) (g2.mono (fun b o z => ⟨S.w.rgl true b o z, hr true b o z⟩) (TupLe.rf _))
  induction as generalizing ms with
  | nil =>
    intro ars vs h av
    cases av
    have : rdAs Γ i ms [] = some [] := by cases ms <;> rfl
    rw [this] at h
    cases h
    exact .nil
  | cons a as ih =>
    intro ars vs h av
    cases av with
    | cons q r =>
      have dd : ∀ (ms2 : List Bool) {fr : Bool} {x : PyData}, a = .d fr x → (rdAs Γ i ms2 as).map (.d x :: ·) = some ars → ArsOk K H (fun a o => H a = some o ∧ a ∉ fp) G.N (_ :: _) ars := fun ms2 {fr x} ha h2 => by
        subst ha
        cases e : rdAs Γ i ms2 as with
        | none => rw [e] at h2; cases h2
        | some xs => rw [e] at h2; cases h2; exact .d (hd q) (ih e r)
      have ss : ∀ (ms2 : List Bool) {j : Nat}, a = .s j → (if some j = i then none else (rdD Γ (.s j)).bind fun x => (rdAs Γ i ms2 as).map (.d x :: ·)) = some ars → ArsOk K H (fun a o => H a = some o ∧ a ∉ fp) G.N (_ :: _) ars := fun ms2 {j} ha h2 => by
        subst ha
        split at h2
        · cases h2
        · rename_i hj
          cases e1 : rdD Γ (.s j) with
          | none => rw [e1] at h2; cases h2
          | some x =>
            rw [e1] at h2
            have h2 : (rdAs Γ i ms2 as).map (.d x :: ·) = some ars := h2
            cases e : rdAs Γ i ms2 as with
            | none => rw [e] at h2; cases h2
            | some xs => rw [e] at h2; cases h2; exact .d (hsl hj e1 q) (ih e r)
      cases a with
      | d fr x =>
        cases ms with
        | nil => exact dd [] rfl h
        | cons b ms =>
          cases b with
          | false => exact dd ms rfl h
          | true =>
            unfold rdAs at h
            split at h
            · rename_i hc
              cases e : rdAs Γ i ms as with
              | none => rw [e] at h; cases h
              | some xs =>
                rw [e] at h
                cases h
                refine .n ?_ (ih e r)
                cases fr with
                | true => exact q
                | false => exact Dn.free q (by simpa using hc)
            · cases h
      | s j =>
        cases ms with
        | nil => exact ss [] rfl h
        | cons b ms =>
          cases b with
          | false => exact ss ms rfl h
          | true => cases h
section
variable {X : Cx} {W : WX} {sc : Scope} {N : List Str} {x : Str} {e : Expr} {es : List Expr} {p pos : Pos} {k : DA} {dvs : List V} {dds : List PyData} {m : List Ar → R (Rs × List Sl)}
theorem callM_core {Γ : List Sl} {G : Gh} {H : Hp} {σ : St} {as : List AV} {ars : List Ar} {ms : List Bool} {vs : List V} {Q : VK} (hdv : ∀ G H, DnA X.K G H dvs dds) (S : Sta X.K G H σ Γ) (av : AVs X.K G H σ vs as) (hd : rdAs Γ none ms as = some ars)
    (hp : Pst X W G H σ ((m (ars ++ dds.map Ar.d)).atX Γ) fun z G' H' => Sta X.K G' H' σ Γ → RsOk X.K G'.N H' Q z.1) : spU X.K X.mg m (vs ++ dvs) H Q (fun cls d H => W cls d σ H) := by
  have h1 : ArsOk X.K H (fun a o => H a = some o ∧ a ∉ []) G.N vs ars := rdAs_ok (i := none) (fp := []) S (fun _ _ _ _ => by simp) (fun _ _ _ _ _ _ _ _ => by simp) hd av
  refine ⟨_, _, _, G.N, argsA (h1.app (.ofD (hdv _ _))) (fun a o h => (S.w.new a o h).1), ?_⟩
  cases hm : m (ars ++ dds.map Ar.d) with
  | bad => rw [hm] at hp; exact hp
  | exc y =>
    rw [hm] at hp
    intro H' N' F' C d P g1 g2
    obtain ⟨G', S', e', l⟩ := call_end S (fun a o h => P.keep a o h (by simp)) P.new
    refine hp G' H' σ C d e' S' g1 ?_
    rcases g2 with ⟨a, fs, q1, q2, q3, q4⟩ | q
    · exact .inl ⟨a, fs, q1, l _ _ q2, q3, q4.mono l (TupLe.rf _)⟩
    · exact .inr q
  | val z =>
    rw [hm] at hp
    intro H' N' F' P
    obtain ⟨G', S', e', l⟩ := call_end S (fun a o h => P.keep a o h (by simp)) P.new
    have q := hp G' H' e' S'
    cases hz : z.1 with
    | d y => rw [hz] at q; exact fun v hv => q v (hv.mono l (TupLe.rf _))
    | c y => rw [hz] at q; exact fun v H2 ⟨fp, n1, n2, n3⟩ => q v H2 ⟨fp, n1, n2, Cl.mono n3 l (fun _ _ => rfl) (TupLe.rf _)⟩
/-- f(..), some arguments kept -/
def xCallM (m : List Ar → R (Rs × List Sl)) (ms : List Bool) (dds : List PyData) (k : DA) : DX := fun Γ => (k Γ).bind fun z => (R.ofO (rdAs z.2 none ms z.1)).bind fun ars => ((m (ars ++ dds.map Ar.d)).atX z.2).bind fun r => .val (r.1, z.2)
theorem cx_callM (C : Cf0 X W sc N) (ms : List Bool) (hc : Clee X x dvs (spU X.K X.mg m)) (hg : glB sc x = true) (hdv : ∀ G H, DnA X.K G H dvs dds) (ha : CA X W (e :: es) k)
    (hdb : (x == ("__debug__" : Str)) = false := by decide +kernel) (he : starEach (e :: es) X.env = (false, eval e X.env) :: starEach es X.env := by rfl) (hpl : (backTo pos (starEach es X.env)).any (·.1) = false := by rfl) : CX X W (.Call (.Name x p) (e :: es) [] pos) (xCallM m ms dds k) := fun Γ => by
  obtain ⟨k', f, fd, ps, dss, F, hr, hm, hk, hb, hd⟩ := hc
  refine pe_imp (pe_callSD (E := fun σ cls d H => W cls d σ H) F hr (C.gl hg) hm hk hb hd (fun σ => passAt C.tk σ) (ha Γ) hdb he hpl) fun σ H Q ⟨G, S, q⟩ => ⟨G, S, (Pst.bind q).imp fun z G1 H1 e1 p1 vs S1 av => ?_⟩
  obtain ⟨ars, hds, p1⟩ := Pst.ofO p1
  refine callM_core hdv S1 av hds ((Pst.bind p1).imp fun r G2 H2 e2 p2 S2 => ?_)
  cases hz : r.1 with
  | d w =>
    have p2 := p2 G2 H2 (Ext.rf S2.w)
    rw [hz] at p2
    exact fun v hv => p2 v S2 hv
  | c w =>
    have p2 := p2 G2 H2 (Ext.rf S2.w)
    rw [hz] at p2
    exact fun v H3 hn => p2 v H3 S2 hn
theorem callCM_core {Γ : List Sl} {G : Gh} {H : Hp} {σ : St} {as : List AV} {ars : List Ar} {ms : List Bool} {vs : List V} {Q : VK} {n i : Nat} {ic : Bool × Cl} (hdv : ∀ G H, DnA X.K G H dvs dds) (S : Sta X.K G H σ Γ) (av : AVs X.K G H σ vs as) (hn : pickC n as = some i) (hc : cellAt Γ i = some ic) (hd : rdAs Γ (some i) ms (as.eraseIdx n) = some ars)
    (hp : Pst X W G H σ ((m (insA n ic.2 (ars ++ dds.map Ar.d))).atC n Γ i ic.1) fun z G' H' => Sta X.K G' H' σ z.2 → RsOk X.K G'.N H' Q z.1) : spU X.K X.mg m (vs ++ dvs) H Q (fun cls d H => W cls d σ H) := by
  have hn' : as[n]? = some (.s i) := by
    unfold pickC at hn
    split at hn
    · cases hn; exact ‹_›
    · cases hn
  obtain ⟨v, v1, v2, rfl, hv1, hv, av2⟩ := avs_erase av hn'
  obtain ⟨v', fp, g1, g2, g3, g4, g5, g6⟩ := S.cellU i ic.1 (cellAt_ok hc)
  rw [hv] at g1
  cases g1
  have h1 : ArsOk X.K H (fun a o => H a = some o ∧ a ∉ fp) G.N (v1 ++ v2) ars := rdAs_ok (i := some i) (fp := fp) S g4 (fun j es p vs hj hr hσ hH => by
    refine g5 j es p vs (fun z => hj (by rw [z])) ?_ hσ hH
    unfold rdD at hr
    simp only at hr
    split at hr
    · cases hr; exact .inl ‹_›
    · cases hr; exact .inr ‹_›
    · cases hr) hd av2
  have h2 : ArsOk X.K H (fun a o => H a = some o ∧ a ∉ fp) G.N (v1 ++ (v2 ++ dvs)) (ars ++ dds.map Ar.d) := by
    rw [← List.append_assoc]
    exact h1.app (.ofD (hdv _ _))
  subst hv1
  refine ⟨_, _, _, G.N, by rw [List.append_assoc, List.cons_append]; exact argsCA h2 g2 g3 (fun a o h => ⟨(S.w.new a o h).1, g4 true a o h⟩), ?_⟩
  have key : ∀ H' N' F' Z c', PostU X.K H (v1 ++ v :: v2 ++ dvs) (fun i => if i = v1.length then fp else []) fp G.N H' N' Z F' → ioAt v1.length Z = some c' → ∃ G', Sta X.K G' H' σ (Γ.set i (mkS ic.1 c')) ∧ Ext G H G' H' ∧ RgLe (RN N') (rg G' true) := fun H' N' F' Z c' P hz => by
    obtain ⟨u, q1, q2⟩ := P.cel _ _ (ioAt_ok hz)
    have : u = v := by
      rw [List.append_assoc, List.getElem?_append_right (Nat.le_refl _), Nat.sub_self] at q1
      exact (Option.some.inj q1).symm
    subst this
    exact g6 H' N' (F' v1.length) c' P.keep P.pal P.t P.new q2 fun p hp => P.al _ p hp
  cases hm : m (insA v1.length ic.2 (ars ++ dds.map Ar.d)) with
  | bad => rw [hm] at hp; exact hp
  | exc y =>
    rw [hm] at hp
    intro H' N' F' C d P k1 k2
    obtain ⟨c', hz, hp⟩ := Pst.ofO (show Pst X W G H σ ((R.ofO (ioAt v1.length y.st)).bind fun c => .exc ⟨y.cls, y.flds, Γ.set i (mkS ic.1 c)⟩) _ from hp)
    obtain ⟨G', S', e', l⟩ := key H' N' F' y.st c' P hz
    refine hp G' H' σ C d e' S' k1 ?_
    rcases k2 with ⟨a, fs, q1, q2, q3, q4⟩ | q
    · exact .inl ⟨a, fs, q1, l _ _ q2, q3, q4.mono l (TupLe.rf _)⟩
    · exact .inr q
  | val z =>
    rw [hm] at hp
    intro H' N' F' P
    obtain ⟨c', hz, hp⟩ := Pst.ofO (show Pst X W G H σ ((R.ofO (ioAt v1.length z.2)).bind fun c => .val (z.1, Γ.set i (mkS ic.1 c))) _ from hp)
    obtain ⟨G', S', e', l⟩ := key H' N' F' z.2 c' P hz
    have q := hp G' H' e' S'
    simp only at q
    cases hz : z.1 with
    | d y => rw [hz] at q; exact fun v hv => q v (hv.mono l (TupLe.rf _))
    | c y => rw [hz] at q; exact fun v H2 ⟨fp, n1, n2, n3⟩ => q v H2 ⟨fp, n1, n2, Cl.mono n3 l (fun _ _ => rfl) (TupLe.rf _)⟩
/-- f(.., cell, ..), some arguments kept; the mask speaks of the arguments without the cell -/
def xCallCM (m : List Ar → R (Rs × List Sl)) (n : Nat) (ms : List Bool) (dds : List PyData) (k : DA) : DX := fun Γ => (k Γ).bind fun z => (R.ofO (pickC n z.1)).bind fun i => (R.ofO (cellAt z.2 i)).bind fun ic => (R.ofO (rdAs z.2 (some i) ms (z.1.eraseIdx n))).bind fun ars => ((m (insA n ic.2 (ars ++ dds.map Ar.d))).atC n z.2 i ic.1).bind fun r => .val (r.1, r.2)
theorem cx_callCM (C : Cf0 X W sc N) (n : Nat) (ms : List Bool) (hc : Clee X x dvs (spU X.K X.mg m)) (hg : glB sc x = true) (hdv : ∀ G H, DnA X.K G H dvs dds) (ha : CA X W (e :: es) k)
    (hdb : (x == ("__debug__" : Str)) = false := by decide +kernel) (he : starEach (e :: es) X.env = (false, eval e X.env) :: starEach es X.env := by rfl) (hpl : (backTo pos (starEach es X.env)).any (·.1) = false := by rfl) : CX X W (.Call (.Name x p) (e :: es) [] pos) (xCallCM m n ms dds k) := fun Γ => by
  obtain ⟨k', f, fd, ps, dss, F, hr, hm, hk, hb, hd⟩ := hc
  refine pe_imp (pe_callSD (E := fun σ cls d H => W cls d σ H) F hr (C.gl hg) hm hk hb hd (fun σ => passAt C.tk σ) (ha Γ) hdb he hpl) fun σ H Q ⟨G, S, q⟩ => ⟨G, S, (Pst.bind q).imp fun z G1 H1 e1 p1 vs S1 av => ?_⟩
  obtain ⟨i, h1, p1⟩ := Pst.ofO p1
  obtain ⟨ic, h2, p1⟩ := Pst.ofO p1
  obtain ⟨ars, h3, p1⟩ := Pst.ofO p1
  refine callCM_core hdv S1 av h1 h2 h3 ((Pst.bind p1).imp fun r G2 H2 e2 p2 S2 => ?_)
  cases hz : r.1 with
  | d w =>
    have p2 := p2 G2 H2 (Ext.rf S2.w)
    rw [hz] at p2
    exact fun v hv => p2 v S2 hv
  | c w =>
    have p2 := p2 G2 H2 (Ext.rf S2.w)
    rw [hz] at p2
    exact fun v H3 hn => p2 v H3 S2 hn
end
end PD


set_option Elab.async false
set_option linter.all false
set_option maxRecDepth 100000
set_option maxHeartbeats 4000000
set_option autoImplicit false
namespace PD
open PySem L2
section
variable {X : Cx} {W : WX} {sc : Scope} {N : List Str} {a b e : Expr} {pos : Pos} {f g : DF}
/-- x is True, of truths -/
def kIsB (_ : List Sl) : AV → AV → R Bool
  | .d _ (.bool x), .d _ (.bool y) => .val (decide (x = y))
  | _, _ => .bad
def kNisB (Γ : List Sl) (x y : AV) : R Bool := (kIsB Γ x y).bind fun z => .val (!z)
theorem ce_isB (ha : CE X W a f) (hb : CE X W b g) (hm : behindInMarks .Is b = false := by first | exact nobehind _ (by decide) (by decide) | rfl) : CE X W (.Compare a [.Is] [b] pos) (dCmp kIsB f g) :=
  ce_cmp2 (fun x y Γ2 => boolR (kIsB Γ2 x y) Γ2) op_is_bl hm ha hb fun x y Γ2 G H σ u v Q S hu hv p => by
    unfold kIsB at p
    split at p
    · exact ⟨_, _, dn_bool hu, dn_bool hv, Pk.v p S (.bl _)⟩
    · exact p.elim
theorem ce_isnotB (ha : CE X W a f) (hb : CE X W b g) (hm : behindInMarks .IsNot b = false := by first | exact nobehind _ (by decide) (by decide) | rfl) : CE X W (.Compare a [.IsNot] [b] pos) (dCmp kNisB f g) :=
  ce_cmp2 (fun x y Γ2 => boolR (kNisB Γ2 x y) Γ2) op_isnot_bl hm ha hb fun x y Γ2 G H σ u v Q S hu hv p => by
    unfold kNisB kIsB at p
    split at p
    · exact ⟨_, _, dn_bool hu, dn_bool hv, Pk.v p S (.bl _)⟩
    · exact p.elim
/-- [a, ..] as data, of what may be old -/
def dLstD (k : DA) : DF := fun Γ => (k Γ).bind fun z => match allF z.1 with
  | some ds => gq (szB z.1) (.d ds.2 (.list ds.1), z.2)
  | none => .bad
theorem ce_lstD {es : List Expr} {k : DA} (ha : CA X W es k) : CE X W (.List es pos) (dLstD k) := fun Γ =>
  pe_imp (pe_lst (ha Γ)) fun σ H Q ⟨G, S, q⟩ => ⟨G, S, (Pst.bind q).imp fun x G1 H1 e1 p1 vs S1 av => by
    split at p1
    · rename_i ds hd
      rcases gq_cases (szB x.1) (AV.d ds.2 (.list ds.1), x.2) with e | ⟨hc, e⟩
      · rw [e] at p1; exact p1.elim
      · rw [e] at p1
        refine ⟨by rw [av.len]; exact of_decide_eq_true hc, fun q hq => ?_⟩
        obtain ⟨S2, e2⟩ := S1.grow (grow_new (o := .lst vs) S1.w hq)
        refine p1 _ _ e2 _ S2 ?_
        refine .lst (.inl (rg_le _ ds.2 _ _ upd_same)) ((allF_ok hd av).mono (e2.rgl _) e2.t)
    · exact p1.elim⟩
end
end PD


set_option Elab.async false
set_option linter.all false
set_option maxRecDepth 100000
set_option maxHeartbeats 4000000
set_option autoImplicit false
namespace PD
open PySem L2
section
variable {X : Cx} {W : WX} {sc : Scope} {N : List Str} {pos : Pos}
/-! ## targets of many names -/
def gTs : List DG → Bool → List PyData → List Sl → Option (List Sl)
  | [], _, [], Γ => some Γ
  | g :: gs, fr, d :: ds, Γ => (g fr d Γ).bind fun Γ1 => gTs gs fr ds Γ1
  | _, _, _, _ => none
def gTn (gs : List DG) : DG := fun fr d Γ => match d with
  | .tuple ds => gTs gs fr ds Γ
  | _ => none
def CGs (X : Cx) (tgs : List Expr) (ts : List Nat) (gs : List DG) : Prop :=
  PGs X tgs (fun vs σ H Q => ∃ G Γ fr ds Γ', Sta X.K G H σ Γ ∧ DnA X.K (rg G fr) H vs ds ∧ gTs gs fr ds Γ = some Γ' ∧ ∀ σ', σ'.length = σ.length → (∀ j, j ∉ ts → σ'[j]? = σ[j]?) → Sta X.K G H σ' Γ' → Q σ' H)
theorem pgs_imp {es : List Expr} {t u : TGs} (h : PGs X es t) (hi : ∀ vs σ H Q, u vs σ H Q → t vs σ H Q) : PGs X es u :=
  ⟨fun pins s σ H vs us Q I r hw => h.run pins s σ H vs us Q I r (hi _ _ _ _ hw)⟩
theorem cgs_nil : CGs X [] [] [] := pgs_imp pgs_nil fun vs σ H Q ⟨G, Γ, fr, ds, Γ', S, hd, e, k⟩ => by
  cases hd with
  | nil =>
    cases e
    exact ⟨rfl, k σ rfl (fun _ _ => rfl) S⟩
  | cons _ _ => cases e
theorem cgs_cons {t1 : Expr} {tgs : List Expr} {ts1 ts2 : List Nat} {g1 : DG} {gs : List DG} (h1 : CG X t1 ts1 g1) (h2 : CGs X tgs ts2 gs) (hs : (assignEach (t1 :: tgs) X.env).map (·.2) = assign t1 X.env :: (assignEach tgs X.env).map (·.2) := by rfl) : CGs X (t1 :: tgs) (ts1 ++ ts2) (g1 :: gs) :=
  pgs_imp (pgs_cons h1 h2 hs) fun vs σ H Q hh => by
    obtain ⟨G, Γ, fr, ds, Γ', S, hd, e, k⟩ := hh
    cases hd with
    | nil => cases e
    | cons d1 r1 =>
      rename_i v vs d ds
      have e : (g1 fr d Γ).bind (fun Γ1 => gTs gs fr ds Γ1) = some Γ' := e
      cases e1 : g1 fr d Γ with
      | none => rw [e1] at e; cases e
      | some Γ1 =>
        rw [e1] at e
        exact ⟨v, vs, rfl, G, Γ, fr, d, Γ1, S, d1, e1, fun σ1 l1 k1 S1 => ⟨G, Γ1, fr, ds, Γ', S1, r1, e, fun σ2 l2 k2 S2 => k _ (l2.trans l1) (fun j hj => (k2 j fun z => hj (by simp [z])).trans (k1 j fun z => hj (by simp [z]))) S2⟩⟩
theorem cg_tupn (C : Cf X W sc N) {tgs : List Expr} {ts : List Nat} {gs : List DG} {kk n : Nat} (h : CGs X tgs ts gs) (hl : gs.length = n := by rfl) (hn : (assignEach tgs X.env).length = n := by rfl) (hst : (assignEach tgs X.env).findIdx? (·.1) = none := by rfl) : CG X (.Tuple tgs kk pos) ts (gTn gs) := by
  refine pg_imp (pg_tup (n := n) C.calm h hn hst) fun v σ H Q ⟨G, Γ, fr, d, Γ', S, hd, e, k⟩ => ?_
  unfold gTn at e
  split at e
  · rename_i ds
    obtain ⟨q, xs, rfl, hq, hds⟩ := dn_tuple hd
    have hlen : ∀ (gs : List DG) (ds : List PyData) (Γ Γ' : List Sl), gTs gs fr ds Γ = some Γ' → ds.length = gs.length := by
      intro gs
      induction gs with
      | nil => intro ds Γ Γ' e; cases ds with
        | nil => rfl
        | cons => cases e
      | cons g gs ih =>
        intro ds Γ Γ' e
        cases ds with
        | nil => cases e
        | cons d ds =>
          have e : (g fr d Γ).bind (fun Γ1 => gTs gs fr ds Γ1) = some Γ' := e
          cases e1 : g fr d Γ with
          | none => rw [e1] at e; cases e
          | some Γ1 => rw [e1] at e; simp [ih ds Γ1 Γ' e]
    have := hlen gs ds Γ Γ' e
    refine ⟨q, xs, rfl, hq, ?_, G, Γ, fr, ds, Γ', S, ?_, e, k⟩
    · have := hds.length; omega
    · exact hds
  · cases e
end
end PD


set_option Elab.async false
set_option linter.all false
set_option maxRecDepth 100000
set_option maxHeartbeats 4000000
set_option autoImplicit false
namespace PD
open PySem PySem.Spec L2
open PyProof.Rows (AllBare)
/-! ## exceptions: tracked as things of the heap -/
/-- an exception of the class cls at a, its own dict at d -/
def XO (cls : Value) (d : Option Addr) (a : Addr) : HO := .ext fun h => ∃ (oe : Obj) (vs : Array Value), h.get? a = some oe ∧ Zc cls d oe ∧ oe.data = .fields vs
theorem xvo_eq (K : PySem.W.Frag) (nm : Str) (d : Option Addr) (a : Addr) : XvO K nm d a = XO (.ref (He.ga K nm)) d a := rfl
theorem xo_tup {cls : Value} {d : Option Addr} {a : Addr} : ∀ xs, XO cls d a ≠ .tup xs := fun xs z => by
  have y : HO.ext _ = HO.tup xs := z
  cases y
theorem xo_frz {cls : Value} {d : Option Addr} {a : Addr} : ∀ x y, XO cls d a ≠ .frz x y := fun x y z => by
  have y : HO.ext _ = HO.frz x y := z
  cases y
theorem xo_ok {P : Program} {w : World} {H : Hp} {h : Heap} {a : Addr} {cls : Value} {d : Option Addr} {oe : Obj} {vs : Array Value} (e : h.get? a = some oe) (z : Zc cls d oe) (q : oe.data = .fields vs) : ObjOk P w H h a (XO cls d a) := by
  refine ⟨⟨oe, vs, e, z, q⟩, ⟨oe, e⟩, ?_⟩
  rintro h1 h2 ⟨o, v, y, r⟩ k
  exact ⟨o, v, k o y, r⟩
section
variable {X : Cx} {pins : List (Addr × Obj)} {σ : St} {H : Hp} {sI s' : Shared} {B : Heap}
/-- an exception that has landed is tracked -/
theorem landX (J : Inv X pins σ H sI) (nb : ∀ b o, sI.heap.get? b = some o → b ∉ frs X.stack → B.get? b = some o) (st : B.StaysIn s'.heap) (up : sI.heap.UpToSlots s'.heap) (eo : s'.os = sI.os) (ag : AllBare s'.gens)
    {a : Addr} {oe : Obj} {vs : Array Value} {cls : Value} {d : Option Addr} (ea : s'.heap.get? a = some oe) (ez : Zc cls d oe) (ed : oe.data = .fields vs) (na : H a = none) (ns : sI.heap.get? a = none) :
    Inv X pins σ (upd H a (XO cls d a)) s' := by
  have fr : ∀ b ∈ frs X.stack, ∀ o, sI.heap.get? b = some o → ∃ sl, s'.heap.get? b = some { o with slots := sl } := by
    intro b hb o e
    obtain ⟨L, o2, e2, nf⟩ := J.stack.mem hb
    rw [e] at e2
    cases e2
    exact up b o e nf
  have ne : ∀ {b : Addr} {o : Obj}, sI.heap.get? b = some o → b ≠ a := fun {b o} e z => by
    rw [z, ns] at e
    cases e
  have un : Un (frs X.stack) [] H (upd H a (XO cls d a)) sI.heap s'.heap := {
    keep := fun b o e n hb hx => st b o (nb b o e hb)
    slot := fun b o e n hb hx => fr b hb o e
    free := fun b o e n hx => (upd_ne (ne e)).trans n
    there := fun b o e hx => by
      by_cases hb : b ∈ frs X.stack
      · exact (fr b hb o e).elim fun sl q => ⟨_, q⟩
      · exact ⟨o, st b o (nb b o e hb)⟩
    tups := fun b xs e => (upd_ne (ne_of_none e na)).trans e
    frzs := fun b o u e => (upd_ne (ne_of_none e na)).trans e
    tbls := fun b ps e => ⟨#[], by rw [upd_ne (ne_of_none e na), e]; simp⟩ }
  exact J.call' eo un (HOk.laidN (J.inGround nb) st na (xo_ok ea ez ed)) ag fun b z => absurd z (by simp)
theorem suite0 (I : Inv X pins σ H s') (a : Addr) : Inv (X.suite a (X.pn ++ pins)) [] σ H s' := by
  refine ⟨I.ok.suite _ _, I.os, I.bare, I.base, I.loc, I.cell, I.free, I.freeC, fun p hp => I.pin p ?_, I.hok, I.len⟩
  have hp : p ∈ (X.pn ++ pins) ++ [] := hp
  rwa [List.append_nil] at hp
theorem unsuite0 {a : Addr} {qs : List (Addr × Obj)} (I : Inv (X.suite a (X.pn ++ pins)) qs σ H s') (ok : X.Ok) : Inv X pins σ H s' := by
  refine ⟨ok, I.os, I.bare, I.base, I.loc, I.cell, I.free, I.freeC, fun p hp => I.pin p ?_, I.hok, I.len⟩
  exact List.mem_append_left _ hp
end
/-- what `except c as n` wishes: the exception is tracked in the suite -/
def wV (K : PySem.W.Frag) (c : Value) (i : Nat) (ts : Addr → TS) (Wout : WX) (D : Ends) : WX := fun cls d σ H =>
  ∃ b, PySem.W.exmOne K cls c = some b ∧
    (b = true → ∀ a, H a = none → ts a { nx := fun σ1 H1 => D.nx (σ1.set i none) H1, rt := D.rt, bk := fun σ1 H1 => D.bk (σ1.set i none) H1, ct := fun σ1 H1 => D.ct (σ1.set i none) H1 } (σ.set i (some (.ref a))) (upd H a (XO cls d a))) ∧
    (b = false → Wout cls d σ H)
section
variable {X : Cx} {x n : Str} {c : Value} {i : Nat} {body suite : List Stmt} {b0 : Stmt} {np pos pos2 : Pos} {tb : WX → TS} {ts : Addr → TS} {Wout : WX}
theorem ps_try_v (hs : X.stack = X.env :: X.outer) (hf : X.env.frame = some X.env.locals) (hN : X.N.Nodup) (hi : X.N[i]? = some n) (hln : X.env.kindOf n = some .local) (hc : Names X x c) (tk : Takes X Wout)
    (hb : ∀ (W : WX) (pn : List (Addr × Obj)) (xe : Value → Shared → Prop), Takes (X.tr pn xe) W → PassesOwn (model X.prog X.w) X.A X.env xe → PSs (X.tr pn xe) body (tb W))
    (hsu : ∀ (a : Addr) (pn : List (Addr × Obj)), PSs (X.suite a pn) (b0 :: suite) (ts a)) :
    PS X (.Try body [.ExceptHandler (some (.Name x np)) (some n) (b0 :: suite) pos2] [] [] pos) (fun D σ H => tb (wV X.K c i ts Wout D) D σ H) := by
  refine ⟨fun pins s σ H D I h => ?_⟩
  have ok := I.ok
  let hd : List ExceptHandler := [.ExceptHandler (some (.Name x np)) (some n) (b0 :: suite) pos2]
  let xe : Value → Shared → Prop := fun e s1 => wpAny (model X.prog X.w) X.A (noteFrame e X.env) (fun _ s2 => wpAny (model X.prog X.w) X.A (setFlight e none) (fun _ s3 =>
    wpAny (model X.prog X.w) X.A (handleBy e X.env hd) (SP X pins D) X.xe s3) X.xe s2) X.xe s1
  have catch_ : Takes (X.tr (X.pn ++ pins) xe) (wV X.K c i ts Wout D) := by
    rintro u s1 ⟨a, B, sI, pins', σ', H', cls, d, rfl, J', nb, up, sky, na, eo, ag, b, hb1, hyes, hno⟩
    have J : Inv X pins σ' H' sI := J'.ofTry ok
    have sky2 : Sky B (X.env :: X.outer) a (Zc cls d) X.env.locals s1.heap := by
      rw [← hs]
      exact sky
    have hfr : X.A.frames = some (X.env :: X.outer) := by rw [ok.frames, hs]
    have na0 : B.get? a = none := by
      rcases sky2 with z | z | z
      · exact z.2.1
      · exact z.2.1
      · exact z.2.1
    show wpAny (model X.prog X.w) X.A (noteFrame (.ref a) X.env) _ _ _
    refine Sky.land Zc.steady hfr hf sky2 fun g1 fl1 up1 => ?_
    obtain ⟨o1, v1, e1, z1, d1⟩ := fl1.there
    have ns : sI.heap.get? a = none := by
      cases q : sI.heap.get? a with
      | none => rfl
      | some o =>
        by_cases hm : a ∈ frs X.stack
        · obtain ⟨L, o2, e2, nf⟩ := J.stack.mem hm
          obtain ⟨sl, e3⟩ := (up.trans up1) a o2 e2 nf
          have e4 : some o1 = some { o2 with slots := sl } := e1.symm.trans e3
          cases e4
          exact absurd d1 (nf v1)
        · have := nb a o q hm
          rw [na0] at this
          cases this
    have J1 : Inv X pins σ' (upd H' a (XO cls d a)) { s1 with heap := g1 } := landX (s' := { s1 with heap := g1 }) J nb fl1.1 (up.trans up1) eo ag e1 z1 d1 na ns
    refine wpAny_handleBy_cons (codeAny_handlers_test ?_) (by intro q; cases q)
    have LT : PySem.W.Looks (model X.prog X.w) g1 (typeOf (.ref a)) cls := fun A Q E s k q => wpAny_typeOf_ref (k _ _ e1) (by rw [z1.1]; exact q)
    have LM := PySem.W.exm_one (M := model X.prog X.w) J1.kIn LT hb1
    have test : ∀ {Q : Value → Shared → Prop} {E : Value → Shared → Prop}, Q c { s1 with heap := g1 } → wpAny (model X.prog X.w) (X.A.mark (some (.ref a))) (eval (.Name x np) X.env) Q E { s1 with heap := g1 } := by
      intro Q E q
      obtain ⟨hg, hdb, hm | ⟨hm, hv, hnn⟩⟩ := hc
      · exact ld_glob (suite0 J1 a) hg hm q hdb
      · exact ld_blt (suite0 J1 a) hg hm hv q hnn hdb
    refine test (LM.here ?_)
    cases b with
    | true =>
      refine codeAny_handlers_suite_as (HandSPX.lands_againZ fl1 fun g2 fl2 up2 => ?_)
      obtain ⟨o2, v2, e2, z2, d2⟩ := fl2.there
      have J2 : Inv X pins σ' (upd H' a (XO cls d a)) { s1 with heap := g2 } := landX (s' := { s1 with heap := g2 }) J nb fl2.1 ((up.trans up1).trans up2) eo ag e2 z2 d2 na ns
      refine store_ok (X := X.suite a (X.pn ++ pins)) (v := .ref a) (suite0 J2 a) hN hi (.inl hln) rfl (fun s2 S2 => ?_) (.inr hln)
      refine wpAny_mono ((hsu a (X.pn ++ pins)).run [] s2 _ _ _ S2 (hyes rfl a na)) (fun f s3 hsp => ?_) (fun _ _ z => False.elim z)
      have fin : ∀ {σ3 : St} {H3 : Hp} {Q : Shared → Prop}, Inv (X.suite a (X.pn ++ pins)) [] σ3 H3 s3 → (∀ s4, Inv X pins (σ3.set i none) H3 s4 → Q s4) → wpAny (model X.prog X.w) X.A (do bindName X.env n .none; unbindBehindTheSuite X.env n pos2) (fun _ s4 => Q s4) X.xe s3 :=
        fun {σ3 H3 Q} S3 hq => gone_ok (unsuite0 S3 ok) hN hi hln hq
      cases f with
      | next =>
        obtain ⟨σ3, H3, S3, q3⟩ := hsp
        exact fin S3 fun s4 J4 => ⟨_, _, J4, q3⟩
      | brk =>
        obtain ⟨σ3, H3, S3, q3⟩ := hsp
        exact fin S3 fun s4 J4 => ⟨_, _, J4, q3⟩
      | cont =>
        obtain ⟨σ3, H3, S3, q3⟩ := hsp
        exact fin S3 fun s4 J4 => ⟨_, _, J4, q3⟩
      | ret u =>
        obtain ⟨v3, σ3, H3, S3, r3, q3⟩ := hsp
        exact fin S3 fun s4 J4 => ⟨_, _, _, J4, r3, q3⟩
    | false =>
      show wpAny _ X.A (handleBy (.ref a) X.env []) _ _ _
      refine wpAny_handleBy_nil ?_
      obtain ⟨k1, k2, k3, oe, vs, T, oT, us, he, hz, hd, h1, hr⟩ := id fl1
      unfold PySem.passOn
      refine wpAny_bind (wpAny_field he hd h1 ?_)
      rw [if_neg (show ¬ ((Value.ref T == Value.none) = true) from by simp)]
      have out : wpAny (model X.prog X.w) X.A (setFlight (.ref a) X.env.frame) (fun _ s4 => wpAny (model X.prog X.w) X.A (throw (.ref a) : Sem Flow) (SP X pins D) X.xe s4) X.xe { s1 with heap := g1 } := by
        rw [hf]
        refine HandSPX.setFlight_upZ fl1 fun g4 hh4 up4 => wpAny_throw (tk _ _ ?_)
        exact ⟨a, B, sI, pins, σ', H', cls, d, rfl, J, nb, (up.trans up1).trans up4, .inr (.inr (by rw [hs]; exact hh4)), na, eo, ag, hno rfl⟩
      first
        | exact wpAny_bind (wpAny_pure (wpAny_bind out))
        | exact wpAny_bind out
  refine wpAny_Try_except (wpAny_mono ((hb _ (X.pn ++ pins) xe catch_ PassesOwn.looking).run [] s σ H D (I.toTry _) h) (fun f s1 hsp => ?_) fun e s1 he => he)
  cases f with
  | next =>
    obtain ⟨σ1, H1, J1, q⟩ := hsp
    exact wpAny_execs_nil ⟨σ1, H1, J1.ofTry ok, q⟩
  | brk =>
    obtain ⟨σ1, H1, J1, q⟩ := hsp
    exact ⟨σ1, H1, J1.ofTry ok, q⟩
  | cont =>
    obtain ⟨σ1, H1, J1, q⟩ := hsp
    exact ⟨σ1, H1, J1.ofTry ok, q⟩
  | ret u =>
    obtain ⟨v, σ1, H1, J1, r, q⟩ := hsp
    exact ⟨v, σ1, H1, J1.ofTry ok, r, q⟩
end
end PD


set_option Elab.async false
set_option linter.all false
set_option maxRecDepth 100000
set_option maxHeartbeats 4000000
set_option autoImplicit false
namespace PD
open PySem PySem.Spec L2
open PyProof.Rows (AllBare)
/-! ## the program's classes of refusals, by their names -/
/-- whether the class c is one of d's, for classes right under HuntError -/
def exIs (c d : Str) : Bool := decide (c = d) || (decide (d = "HuntError") || decide (d = "ValueError"))
/-- what the written part says of such a class -/
def xfb (K : PySem.W.Frag) (c : Str) : Bool :=
  (PySem.W.clsIn K (He.ga K c)).isSome && (decide (PySem.W.findIn K (.ref (He.ga K c)) "__getattribute__" = some (some (.builtin "BaseException.__getattribute__"))) &&
    (decide (PySem.W.findIn K (.ref (He.ga K c)) "__getattr__" = some none) && (decide (PySem.W.subIn K (.ref (He.ga K c)) (.type "BaseException") = some true) &&
      (PySem.W.hasDictIn K (He.ga K c) && (decide (PySem.W.findIn K (.ref (He.ga K c)) "__class__" = some (some (.builtin "object.__class__"))) &&
        (decide (PySem.W.specialIn K (.builtin "object.__class__") "__get__" = some (some (.builtin "getset_descriptor.__get__"))) &&
          (decide (PySem.W.takesIn K (.builtin "object.__class__") = some true) && (decide (PySem.W.mroIn K (He.ga K c) (.type "object") = some true) && decide (PySem.W.typeIn K (.ref (He.ga K c)) = some (.type "type"))))))))))
structure XF (K : PySem.W.Frag) (C : Addr) : Prop where
  cl : (PySem.W.clsIn K C).isSome = true
  ga : PySem.W.findIn K (.ref C) "__getattribute__" = some (some (.builtin "BaseException.__getattribute__"))
  gt : PySem.W.findIn K (.ref C) "__getattr__" = some none
  sb : PySem.W.subIn K (.ref C) (.type "BaseException") = some true
  hd : PySem.W.hasDictIn K C = true
  ca : PySem.W.findIn K (.ref C) "__class__" = some (some (.builtin "object.__class__"))
  gn : PySem.W.specialIn K (.builtin "object.__class__") "__get__" = some (some (.builtin "getset_descriptor.__get__"))
  tk : PySem.W.takesIn K (.builtin "object.__class__") = some true
  mo : PySem.W.mroIn K C (.type "object") = some true
  ty : PySem.W.typeIn K (.ref C) = some (.type "type")
theorem xfb_ok {K : PySem.W.Frag} {c : Str} (h : xfb K c = true) : XF K (He.ga K c) := by
  unfold xfb at h
  simp only [Bool.and_eq_true] at h
  obtain ⟨h1, h2, h3, h4, h5, h6, h7, h8, h9, h10⟩ := h
  exact ⟨h1, of_decide_eq_true h2, of_decide_eq_true h3, of_decide_eq_true h4, h5, of_decide_eq_true h6, of_decide_eq_true h7, of_decide_eq_true h8, of_decide_eq_true h9, of_decide_eq_true h10⟩
/-- a class as a value -/
def clU (K : PySem.W.Frag) (d : Str) : Value := if d = "ValueError" then .type "ValueError" else .ref (He.ga K d)
def clW (K : PySem.W.Frag) (d : Str) : V := if d = "ValueError" then .ty "ValueError" else .ref (He.ga K d)
theorem cl_rel (K : PySem.W.Frag) (d : Str) : RelV (clW K d) (clU K d) := by
  unfold clW clU
  split
  · rfl
  · rfl
theorem cl_cls (K : PySem.W.Frag) (d : Str) : ClsV (clW K d) (clU K d) := by
  unfold clW clU
  split
  · exact .ty _
  · exact .own _
def kitF (K : PySem.W.Frag) (xs : List Str) (d : Str) : Bool := decide (PySem.W.kitOne K (.type "NoneType") (clU K d) = some false) && xs.all fun c => decide (PySem.W.kitOne K (.ref (He.ga K c)) (clU K d) = some (exIs c d))
def exmF (K : PySem.W.Frag) (xs : List Str) (d : Str) : Bool := xs.all fun c => decide (PySem.W.exmOne K (.ref (He.ga K c)) (.ref (He.ga K d)) = some (exIs c d))
/-- xs: the classes that occur; ds: those that are asked; hs: those in except clauses; fs: the fields that are read -/
def xallB (K : PySem.W.Frag) (xs ds hs fs : List Str) : Bool := (xs.all (xfb K)) && ((ds.all (kitF K xs)) && ((hs.all (exmF K xs)) && (xs.all fun c => fs.all fun f => decide (PySem.W.findIn K (.ref (He.ga K c)) f = some none))))
structure XAll (K : PySem.W.Frag) (mg : Str → Option Value) (xs ds hs fs : List Str) : Prop where
  mgc : ∀ c ∈ xs, mg c = some (.ref (He.ga K c))
  mgd : ∀ d ∈ ds, d ≠ "ValueError" → mg d = some (.ref (He.ga K d))
  mgh : ∀ d ∈ hs, mg d = some (.ref (He.ga K d))
  xf : ∀ c ∈ xs, XF K (He.ga K c)
  kn : ∀ d ∈ ds, PySem.W.kitOne K (.type "NoneType") (clU K d) = some false
  kit : ∀ d ∈ ds, ∀ c ∈ xs, PySem.W.kitOne K (.ref (He.ga K c)) (clU K d) = some (exIs c d)
  exm : ∀ d ∈ hs, ∀ c ∈ xs, PySem.W.exmOne K (.ref (He.ga K c)) (.ref (He.ga K d)) = some (exIs c d)
  fld : ∀ c ∈ xs, ∀ f ∈ fs, PySem.W.findIn K (.ref (He.ga K c)) f = some none
theorem xall_ok {K : PySem.W.Frag} {mg : Str → Option Value} {xs ds hs fs : List Str} (h : xallB K xs ds hs fs = true) (m1 : ∀ c ∈ xs, mg c = some (.ref (He.ga K c))) (m2 : ∀ d ∈ ds, d ≠ "ValueError" → mg d = some (.ref (He.ga K d)))
    (m3 : ∀ d ∈ hs, mg d = some (.ref (He.ga K d))) : XAll K mg xs ds hs fs := by
  unfold xallB at h
  simp only [Bool.and_eq_true, List.all_eq_true] at h
  obtain ⟨h1, h2, h3, h4⟩ := h
  refine ⟨m1, m2, m3, fun c hc => xfb_ok (h1 c hc), fun d hd => ?_, fun d hd c hc => ?_, fun d hd c hc => ?_, fun c hc f hf => of_decide_eq_true (h4 c hc f hf)⟩
  · have := h2 d hd
    unfold kitF at this
    exact of_decide_eq_true (Bool.and_eq_true_iff.mp this).1
  · have := h2 d hd
    unfold kitF at this
    exact of_decide_eq_true (List.all_eq_true.mp (Bool.and_eq_true_iff.mp this).2 c hc)
  · have := h3 d hd
    unfold exmF at this
    exact of_decide_eq_true (List.all_eq_true.mp this c hc)
/-! ## isinstance -/
/-- a value's type, of an exception too -/
def TyY (K : PySem.W.Frag) (H : Hp) (v : V) (t : Value) : Prop :=
  TyX K H v t ∨ ∃ (a : Addr) (c : Str) (d : Option Addr), v = .ref a ∧ H a = some (XvO K c d a) ∧ (∀ e, d = some e → ∃ fs, H e = some (.xd fs)) ∧ XF K (He.ga K c) ∧ t = .ref (He.ga K c)
section
variable {X : Cx} {pins : List (Addr × Obj)} {σ : St} {H : Hp} {s : Shared}
theorem xvo_inst {a : Addr} {c : Str} {d : Option Addr} (I : Inv X pins σ H s) (h : H a = some (XvO X.K c d a)) (hd : ∀ e, d = some e → ∃ fs, H e = some (.xd fs)) : ∃ oe od, PySem.W.InstAt s.heap a oe (He.ga X.K c) od := by
  obtain ⟨⟨oe, vs, g, z, q⟩, _⟩ := (show ObjOk X.prog X.w H s.heap a (XvO X.K c d a) from I.hok a _ h)
  have nc : PySem.W.notCls oe = true := by
    unfold PySem.W.notCls
    rw [q] <;> rfl
  cases d with
  | none => exact ⟨oe, none, g, z.1, nc, by rw [z.2]; trivial⟩
  | some e =>
    obtain ⟨fs, hf⟩ := hd e rfl
    obtain ⟨mA, hns, hr⟩ := (show ObjOk X.prog X.w H s.heap e (.xd fs) from I.hok e _ hf)
    obtain ⟨od, ho, hl⟩ := lookIn_ns hns
    exact ⟨oe, some od, g, z.1, nc, by rw [z.2]; exact ho⟩
theorem kit_y {x : V} {u t : Value} (I : Inv X pins σ H s) (rx : RelV x u) (ty : TyY X.K H x t) : ∃ P : Heap → Prop, PySem.W.KitX X.K u t P ∧ P s.heap ∧ u ≠ .builtin "__main__.__loader__#opaque" := by
  rcases ty with ty | ⟨a, c, d, rfl, h, hd, F, rfl⟩
  · exact kit_of I rx ty
  · cases (show u = Value.ref a from rx)
    obtain ⟨oe, od, J⟩ := xvo_inst I h hd
    exact ⟨_, PySem.W.kitx_exc (x := a) (ox := oe) (od := od) F.cl F.ga F.gt F.sb F.ca F.gn F.tk F.mo, J, fun z => nomatch z⟩
end
def rIsiY (K : PySem.W.Frag) : List V → Hp → VK → Prop := fun xs H Q => ∃ (x c : V) (t u : Value) (b : Bool), xs = [x, c] ∧ ClsV c u ∧ TyY K H x t ∧ PySem.W.kitOne K t u = some b ∧ Q (.bl b) H
def rIsiYT (K : PySem.W.Frag) : List V → Hp → VK → Prop := fun xs H Q => ∃ (x : V) (tp : Addr) (cs : List V) (t : Value) (us : List Value) (b : Bool), xs = [x, .ref tp] ∧ H tp = some (.tup cs) ∧ Paired ClsV cs us ∧ TyY K H x t ∧ PySem.W.kitAny K t us = some b ∧ Q (.bl b) H
theorem vals_two {x c : V} {us : List Value} (r : Vals [x, c] us) : ∃ u1 u2, us = [u1, u2] ∧ RelV x u1 ∧ RelV c u2 := by
  cases r with
  | cons a r =>
    cases r with
    | cons b r =>
      cases r
      exact ⟨_, _, rfl, a, b⟩
theorem call_isiY {X : Cx} : CallR X (.builtin "isinstance") (rIsiY X.K) := by
  rintro pins s σ H xs us Q I r ⟨x, c, t, u, b, rfl, k, ty, e, q⟩
  obtain ⟨u1, u2, rfl, r1, r2⟩ := vals_two r
  cases k.eq r2
  obtain ⟨P, Z, p, hx⟩ := kit_y I r1 ty
  exact PySem.W.kia_one Z I.kIn p e hx fun tk => ⟨.bl b, H, I.tok tk, rfl, q⟩
theorem call_isiYT {X : Cx} : CallR X (.builtin "isinstance") (rIsiYT X.K) := by
  rintro pins s σ H xs us Q I r ⟨x, tp, cs, t, ws, b, rfl, hT, k, ty, e, q⟩
  obtain ⟨u1, u2, rfl, r1, r2⟩ := vals_two r
  cases (show u2 = Value.ref tp from r2)
  obtain ⟨P, Z, p, hx⟩ := kit_y I r1 ty
  obtain ⟨_, its, rv, o, h1, h2, n, h3⟩ := (show ObjOk X.prog X.w H s.heap tp (.tup cs) from I.hok tp _ hT)
  cases ClsV.all k rv
  obtain ⟨oc, od, dt, sl⟩ := o
  dsimp only at h2 h3
  subst h2 h3
  exact PySem.W.kia_tup Z I.kIn p h1 e hx fun tk => ⟨.bl b, H, I.tok tk, rfl, q⟩
/-- isinstance of an exception or None -/
def dIsx (xs Ds : List Str) (f : DF) : DF := fun Γ => (f Γ).bind fun x => match x.1 with
  | .d _ .none => .val (.d true (.bool false), x.2)
  | .d _ (.dict ((.none, .str c) :: _)) => gq (xs.contains c) (.d true (.bool (Ds.any (exIs c))), x.2)
  | _ => .bad
theorem dn_xc {K : PySem.W.Frag} {G : Rg} {H : Hp} {v : V} {c : Str} {kvs : List (PyData × PyData)} (h : Dn K G H v (.dict ((.none, .str c) :: kvs))) :
    ∃ a d, v = .ref a ∧ G a (XvO K c d a) ∧ ((d = none ∧ kvs = []) ∨ ∃ (dd : Addr) (fs : List (Str × V)) (flds : List (Str × PyData)), d = some dd ∧ G dd (.xd fs) ∧ kvs = flds.map (fun z : Str × PyData => (PyData.str z.1, z.2)) ∧ fs.map (·.1) = flds.map (·.1) ∧ DnA K G H (fs.map (·.2)) (flds.map (·.2))) := by
  cases h with
  | @dct a o t vs _ g ho _ =>
    exfalso
    cases t with
    | k =>
      obtain ⟨ks, _, h1, _⟩ := ho
      cases ks with
      | nil => cases h1
      | cons z r =>
        have h1 : PyData.none = keyD z.1 := (List.cons.inj h1).1
        cases hz : z.1 <;> rw [hz] at h1 <;> cases h1
    | t =>
      obtain ⟨ks, _, h1, _⟩ := ho
      cases ks with
      | nil => cases h1
      | cons z r =>
        have h1 := (List.cons.inj h1).1
        cases h1
  | exc g1 g2 e a => exact ⟨_, _, rfl, g1, .inr ⟨_, _, _, rfl, g2, rfl, e, a⟩⟩
  | exc0 g => exact ⟨_, _, rfl, g, .inl ⟨rfl, rfl⟩⟩
theorem dn_tyy {K : PySem.W.Frag} {H : Hp} {v : V} {c : Str} {kvs : List (PyData × PyData)} (h : Dn K (RgH H) H v (.dict ((.none, .str c) :: kvs))) (F : XF K (He.ga K c)) : TyY K H v (.ref (He.ga K c)) := by
  obtain ⟨a, d, rfl, g, q⟩ := dn_xc h
  refine .inr ⟨a, c, d, rfl, g, fun e he => ?_, F, rfl⟩
  rcases q with ⟨q, _⟩ | ⟨dd, fs, _, q, g2, _⟩
  · rw [q] at he
    cases he
  · rw [q] at he
    cases he
    exact ⟨fs, g2⟩
theorem kitAny_no {K : PySem.W.Frag} {t : Value} : ∀ {us : List Value}, (∀ u ∈ us, PySem.W.kitOne K t u = some false) → PySem.W.kitAny K t us = some false
  | [], _ => rfl
  | u :: us, h => kitAny_cons (h u (by simp)) (fun _ => kitAny_no fun w hw => h w (by simp [hw])) (fun z => by cases z)
theorem kitAny_ex {K : PySem.W.Frag} {c : Str} : ∀ {Ds : List Str}, (∀ d ∈ Ds, PySem.W.kitOne K (.ref (He.ga K c)) (clU K d) = some (exIs c d)) → PySem.W.kitAny K (.ref (He.ga K c)) (Ds.map (clU K)) = some (Ds.any (exIs c))
  | [], _ => rfl
  | d :: Ds, h => by
    refine kitAny_cons (h d (by simp)) (fun z => ?_) (fun z => ?_)
    · rw [List.any_cons, z, Bool.false_or]
      exact kitAny_ex fun w hw => h w (by simp [hw])
    · rw [List.any_cons, z, Bool.true_or]
section
variable {X : Cx} {W : WX} {sc : Scope} {N : List Str} {xs ds hs fs : List Str} {e : Expr} {p p2 p3 pos : Pos} {f : DF}
theorem pe_cls (C : Cf0 X W sc N) (F : XAll X.K X.mg xs ds hs fs) {D : Str} (hD : D ∈ ds) (hg : glB sc D = true) (hm : D = "ValueError" → X.mg D = none) (hdb : (D == ("__debug__" : Str)) = false := by decide +kernel) : PE X (.Name D p) (tC (clW X.K D)) := by
  by_cases h : D = "ValueError"
  · subst h
    have hv : bootBuiltins "ValueError" = some (.type "ValueError") := PyProof.Rows.Boot.«ValueError»
    exact pe_bltn (C.gl hg) (hm rfl) hv rfl (by decide +kernel) (by decide +kernel)
  · have e1 : clW X.K D = .ref (He.ga X.K D) := if_neg h
    rw [e1]
    exact pe_glob (C.gl hg) (F.mgd D hD h) rfl hdb
theorem ce_isx (C : Cf0 X W sc N) (F : XAll X.K X.mg xs ds hs fs) (D : Str) (hg : glB sc "isinstance" = true) (hm : X.mg "isinstance" = none) (hD : D ∈ ds) (hgD : glB sc D = true) (hmD : D = "ValueError" → X.mg D = none) (ha : CE X W e f)
    (hdD : (D == ("__debug__" : Str)) = false := by decide +kernel) (hst : starEach [e, .Name D p2] X.env = (false, eval e X.env) :: starEach [.Name D p2] X.env := by rfl) (hst2 : starEach [.Name D p2] X.env = (false, eval (.Name D p2) X.env) :: starEach [] X.env := by rfl) :
    CE X W (.Call (.Name "isinstance" p) [e, .Name D p2] [] pos) (dIsx xs [D] f) := fun Γ => by
  have hT : PE X (.Name D p2) (tC (clW X.K D)) := pe_cls C F hD hgD hmD hdD
  refine pe_imp (pe_callB call_isiY (C.gl hg) hm PyProof.Rows.boot_isinstance (pa_cons (ha Γ) (pa_cons hT pa_nil hst2) hst) (by decide +kernel) (by decide +kernel) hst (by rw [hst2]; rfl)) fun σ H Q ⟨G, S, q⟩ => ⟨G, S, (Pst.bind q).imp fun x G1 H1 e1 p1 v S1 hv => ?_⟩
  split at p1
  · rename_i fr hx
    rw [hx] at hv
    cases dn_none hv
    refine ⟨.non, clW X.K D, .type "NoneType", clU X.K D, false, rfl, cl_cls _ _, .inl (.base .non), F.kn D hD, ?_⟩
    exact p1 G1 H1 (Ext.rf S1.w) (.bl false) S1 (.bl _)
  · rename_i fr c kvs hx
    rw [hx] at hv
    obtain ⟨hc, p1⟩ := Pst.gq S1.w p1
    have hc : c ∈ xs := by simpa using hc
    have hv : Dn X.K (RgH H1) H1 v (.dict ((.none, .str c) :: kvs)) := S1.w.dn hv
    refine ⟨v, clW X.K D, .ref (He.ga X.K c), clU X.K D, exIs c D, rfl, cl_cls _ _, dn_tyy hv (F.xf c hc), F.kit D hD c hc, ?_⟩
    refine p1 (.bl (exIs c D)) S1 ?_
    show Dn _ _ _ _ (.bool (exIs c D || false))
    rw [Bool.or_false]
    exact .bl _
  · exact p1.elim
/-- the classes of a display of names -/
inductive ClNs (X : Cx) (sc : Scope) (ds : List Str) : List Expr → List Str → Prop
  | nil : ClNs X sc ds [] []
  | cons {D : Str} {p : Pos} {es : List Expr} {Ds : List Str} : D ∈ ds → glB sc D = true → (D = "ValueError" → X.mg D = none) → (D == ("__debug__" : Str)) = false → starEach (.Name D p :: es) X.env = (false, eval (.Name D p) X.env) :: starEach es X.env → ClNs X sc ds es Ds → ClNs X sc ds (.Name D p :: es) (D :: Ds)
def tAc (vs : List V) : TA := fun _ H Q => Q vs H
theorem pa_clns (C : Cf0 X W sc N) (F : XAll X.K X.mg xs ds hs fs) : ∀ {es : List Expr} {Ds : List Str}, ClNs X sc ds es Ds → PA X es (tAc (Ds.map (clW X.K)))
  | _, _, .nil => pa_imp pa_nil fun σ H Q h => h
  | _, _, .cons h1 h2 h3 h4 h5 r => pa_imp (pa_cons (pe_cls C F h1 h2 h3 h4) (pa_clns C F r) h5) fun σ H Q h => h
theorem cls_all (K : PySem.W.Frag) : ∀ Ds : List Str, Paired ClsV (Ds.map (clW K)) (Ds.map (clU K))
  | [] => .nil
  | d :: Ds => .cons (cl_cls K d) (cls_all K Ds)
theorem ClNs.mem {es : List Expr} {Ds : List Str} (h : ClNs X sc ds es Ds) : ∀ d ∈ Ds, d ∈ ds := by
  induction h with
  | nil => intro d hd; cases hd
  | cons h1 _ _ _ _ _ ih =>
    intro d hd
    rcases List.mem_cons.mp hd with z | z
    · rw [z]; exact h1
    · exact ih d z
theorem ce_isxT (C : Cf0 X W sc N) (F : XAll X.K X.mg xs ds hs fs) {es : List Expr} {Ds : List Str} {kk : Nat} (hT : ClNs X sc ds es Ds) (hl : Ds.length ≤ sizeLine) (hg : glB sc "isinstance" = true) (hm : X.mg "isinstance" = none) (ha : CE X W e f)
    (hst : starEach [e, .Tuple es kk p2] X.env = (false, eval e X.env) :: starEach [.Tuple es kk p2] X.env := by rfl) (hst2 : starEach [.Tuple es kk p2] X.env = (false, eval (.Tuple es kk p2) X.env) :: starEach [] X.env := by rfl) :
    CE X W (.Call (.Name "isinstance" p) [e, .Tuple es kk p2] [] pos) (dIsx xs Ds f) := fun Γ => by
  have hTp := pe_tup (x1 := kk) (pos := p2) (pa_clns C F hT)
  refine pe_imp (pe_callB call_isiYT (C.gl hg) hm PyProof.Rows.boot_isinstance (pa_cons (ha Γ) (pa_cons hTp pa_nil hst2) hst) (by decide +kernel) (by decide +kernel) hst (by rw [hst2]; rfl)) fun σ H Q ⟨G, S, q⟩ => ⟨G, S, (Pst.bind q).imp fun x G1 H1 e1 p1 v S1 hv => ?_⟩
  refine ⟨by rw [List.length_map]; exact hl, fun tp hp => ?_⟩
  obtain ⟨S2, e2⟩ := S1.grow (grow_new (o := .tup (Ds.map (clW X.K))) S1.w hp)
  split at p1
  · rename_i fr hx
    rw [hx] at hv
    cases dn_none hv
    refine ⟨.non, tp, Ds.map (clW X.K), .type "NoneType", Ds.map (clU X.K), false, rfl, upd_same, cls_all _ _, .inl (.base .non), kitAny_no fun u hu => ?_, ?_⟩
    · obtain ⟨d, hd, rfl⟩ := List.mem_map.mp hu
      exact F.kn d (hT.mem d hd)
    · exact p1 _ _ e2 (.bl false) S2 (.bl _)
  · rename_i fr c kvs hx
    rw [hx] at hv
    have p1 := Pst.ext p1 e2
    obtain ⟨hc, p1⟩ := Pst.gq S2.w p1
    have hc : c ∈ xs := by simpa using hc
    have hv : Dn X.K (RgH (upd H1 tp (.tup (Ds.map (clW X.K))))) (upd H1 tp (.tup (Ds.map (clW X.K)))) v (.dict ((.none, .str c) :: kvs)) := S2.w.dn (e2.dn hv)
    exact ⟨v, tp, Ds.map (clW X.K), .ref (He.ga X.K c), Ds.map (clU X.K), Ds.any (exIs c), rfl, upd_same, cls_all _ _, dn_tyy hv (F.xf c hc), kitAny_ex fun d hd => F.kit d (hT.mem d hd) c hc, p1 (.bl _) S2 (.bl _)⟩
  · exact p1.elim
/-! ## a field of an exception -/
def fldA (f : Str) : List (PyData × PyData) → Option PyData
  | (.str x, d) :: r => if x = f then some d else fldA f r
  | _ => none
def dAtt (xs : List Str) (n : Str) (f : DF) : DF := fun Γ => (f Γ).bind fun x => match x.1 with
  | .d fr (.dict ((.none, .str c) :: kvs)) => (R.req (xs.contains c)).bind fun _ => (R.ofO (fldA n kvs)).bind fun d => .val (.d fr d, x.2)
  | _ => .bad
theorem fldA_ok {K : PySem.W.Frag} {G : Rg} {H : Hp} {n : Str} {d : PyData} : ∀ {fl : List (Str × V)} {flds : List (Str × PyData)}, fl.map (·.1) = flds.map (·.1) → DnA K G H (fl.map (·.2)) (flds.map (·.2)) →
    fldA n (flds.map fun z => (PyData.str z.1, z.2)) = some d → ∃ v, fl.lookup n = some v ∧ Dn K G H v d
  | [], [], _, _, h => by cases h
  | [], _ :: _, e, _, _ => by cases e
  | _ :: _, [], e, _, _ => by cases e
  | (x, v) :: fl, (y, z) :: flds, e, a, h => by
    have e1 : x = y := (List.cons.inj e).1
    have e2 := (List.cons.inj e).2
    subst e1
    cases a with
    | cons a1 a2 =>
      have h : (if x = n then some z else fldA n (flds.map fun z => (PyData.str z.1, z.2))) = some d := h
      by_cases q : x = n
      · rw [if_pos q] at h
        cases h
        subst q
        exact ⟨v, by simp [List.lookup], a1⟩
      · rw [if_neg q] at h
        obtain ⟨w, h1, h2⟩ := fldA_ok e2 a2 h
        refine ⟨w, ?_, h2⟩
        have : (n == x) = false := by simpa using Ne.symm q
        simp only [List.lookup, this]
        exact h1
theorem ce_att (C : Cf0 X W sc N) (F : XAll X.K X.mg xs ds hs fs) {n : Str} (hn : n ∈ fs) (ha : CE X W e f) (hb : attributeBase e n X.env (eval e X.env) = eval e X.env := by rfl) : CE X W (.Attribute e n pos) (dAtt xs n f) := fun Γ => by
  refine ⟨fun pins s σ H Q I ⟨G, S, q⟩ => ?_⟩
  let k : AV × List Sl → R (AV × List Sl) := fun x => match x.1 with
    | .d fr (.dict ((.none, .str c) :: kvs)) => (R.req (xs.contains c)).bind fun _ => (R.ofO (fldA n kvs)).bind fun d => .val (.d fr d, x.2)
    | _ => .bad
  refine attr_of hb (thn ((ha Γ).run pins s σ H (fun v H1 => ∃ G1 x, Sta X.K G1 H1 σ x.2 ∧ AVok X.K G1 H1 σ v x.1 ∧ Pk X W G1 H1 σ (k x) Q) I ⟨G, S, (Pst.bind (k := k) q).imp fun x G1 H1 e1 p1 v S1 hv => ⟨G1, x, S1, hv, p1⟩⟩) fun u s1 hh => ?_)
  · obtain ⟨v, H1, I1, rv, G1, x, S1, hv, p1⟩ := hh
    unfold Pk at p1
    dsimp only [k] at p1
    split at p1
    · rename_i fr c kvs hx
      rw [hx] at hv
      obtain ⟨hc, p1⟩ := Pst.req p1
      obtain ⟨d, hd, p9⟩ := Pst.ofO p1
      clear p1
      have hc : c ∈ xs := by simpa using hc
      obtain ⟨a, od, rfl, g, h⟩ := dn_xc hv
      obtain rfl : u = Value.ref a := rv
      rcases h with ⟨_, hk⟩ | ⟨dd, fl, flds, rfl, g2, rfl, en, da⟩
      · rw [hk] at hd
        cases hd
      · obtain ⟨w, hw, dw⟩ := fldA_ok en da hd
        have T := F.xf c hc
        obtain ⟨⟨oe, vs, hget, z, hq⟩, _⟩ := (show ObjOk X.prog X.w H1 s1.heap a (XvO X.K c (some dd) a) from I1.hok a _ (S1.w.rgl fr _ _ g))
        obtain ⟨mA, hns, hr⟩ := (show ObjOk X.prog X.w H1 s1.heap dd (.xd fl) from I1.hok dd _ (S1.w.rgl fr _ _ g2))
        obtain ⟨o2, ho, hl⟩ := lookIn_ns hns
        obtain ⟨u2, hu, ru⟩ := RelO.some_of (v := w) (o := mA n) (by rw [← hw]; exact hr n)
        have J : PySem.W.InstAt s1.heap a oe (He.ga X.K c) (some o2) := ⟨hget, z.1, by unfold PySem.W.notCls; rw [hq] <;> rfl, by rw [z.2]; exact ho⟩
        exact HandSPX.exc_get I1.kIn J T.ga T.gt T.sb (PySem.W.findObj_own T.hd (F.fld c hc n hn) rfl (by rw [hl, hu])) (handed_of ru) ⟨w, H1, I1.tok _, ru, p9 G1 H1 (Ext.rf S1.w) w S1 dw⟩
    · exact p1.elim
end
end PD


set_option Elab.async false
set_option linter.all false
set_option maxRecDepth 100000
set_option maxHeartbeats 4000000
set_option autoImplicit false
namespace PD
open PySem PySem.Spec L2
open PyProof.Rows (AllBare)
/-! ## try: body, except D as n: suite -/
def bTry (xs : List Str) (i : Nat) (D : Str) (b s : DS) : DS := fun Γ => match b Γ with
  | .exc x => if xs.contains x.cls then (if exIs x.cls D then (match s (x.st.set i (.dat true (xcD x.cls x.flds))) with
      | .val z => .val (z.1, z.2.set i .un)
      | _ => .bad) else .exc x) else .bad
  | r => r
section
variable {X : Cx} {W : WX} {sc : Scope} {N : List Str} {xs ds hs fs : List Str} {b s : DS} {body suite : List Stmt} {b0 : Stmt} {np pos pos2 : Pos}
theorem dn_xo {K : PySem.W.Frag} {G : Rg} {H : Hp} {a : Addr} {c : Str} {d : Option Addr} {flds : List (Str × PyData)} (g : G a (XvO K c d a)) (h : XdOk K G H d flds) : Dn K G H (.ref a) (xcD c flds) := by
  rcases h with ⟨dd, fl, rfl, g2, e1, e2⟩ | ⟨rfl, rfl⟩
  · exact .exc g g2 e1 e2
  · exact .exc0 g
theorem XdOk.mono {K : PySem.W.Frag} {G G' : Rg} {H H' : Hp} {d : Option Addr} {flds : List (Str × PyData)} (h : XdOk K G H d flds) (g : RgLe G G') (t : TupLe H H') : XdOk K G' H' d flds := by
  rcases h with ⟨dd, fl, rfl, g2, e1, e2⟩ | ⟨rfl, rfl⟩
  · exact .inl ⟨dd, fl, rfl, g _ _ g2, e1, e2.mono g t⟩
  · exact .inr ⟨rfl, rfl⟩
theorem c1_try (C : Cf X W sc N) (F : XAll X.K X.mg xs ds hs fs) (i : Nat) {x n : Str} (hst : X.stack = X.env :: X.outer) (hfr : X.env.frame = some X.env.locals) (hi : N[i]? = some n) (hln : lclB sc n = true) (hD : x ∈ hs) (hg : glB sc x = true)
    (hb : ∀ (pn : List (Addr × Obj)) (xe : Value → Shared → Prop) (W' : WX), Cf (X.tr pn xe) W' sc N → CS (X.tr pn xe) W' body b) (hsu : ∀ (a : Addr) (pn : List (Addr × Obj)), Cf0 (X.suite a pn) WF sc N → CS (X.suite a pn) WF (b0 :: suite) s)
    (hdb : (x == ("__debug__" : Str)) = false := by decide +kernel) :
    C1 X W (.Try body [.ExceptHandler (some (.Name x np)) (some n) (b0 :: suite) pos2] [] [] pos) (bTry xs i x b s) := fun Γ => by
  have hk : X.env.kindOf n = some .local := by
    show X.env.scope.names.lookup n = some .local
    rw [C.hsc]
    unfold lclB at hln
    split at hln
    · assumption
    · cases hln
  have cf1 : ∀ (pn : List (Addr × Obj)) (xe : Value → Shared → Prop) (W' : WX), Takes (X.tr pn xe) W' → PassesOwn (model X.prog X.w) X.A X.env xe → Cf (X.tr pn xe) W' sc N :=
    fun pn xe W' tk ps => ⟨⟨C.hsc, C.hN, C.nd, tk, C.hu, ps, C.hu2⟩, C.calm⟩
  have cf0 : ∀ (a : Addr) (pn : List (Addr × Obj)), Cf0 (X.suite a pn) WF sc N := fun a pn => ⟨C.hsc, C.hN, C.nd, takes0, C.hu, PassesOwn.never, C.hu2⟩
  refine ps_imp (ps_try_v (tb := fun W' => rdB X W' Γ (b Γ)) (ts := fun a D σ H => ∃ Γs, rdB X WF Γs (s Γs) D σ H) (c := .ref (He.ga X.K x)) hst hfr (by rw [C.hN]; exact C.nd) (by rw [C.hN]; exact hi) hk ⟨C.gl hg, hdb, .inl (F.mgh x hD)⟩ C.tk
    (fun W' pn xe tk ps => hb pn xe W' (cf1 pn xe W' tk ps) Γ) (fun a pn => pss_any fun Γs => hsu a pn (cf0 a pn) Γs)) fun D σ H ⟨G, S, p⟩ => ⟨G, S, ?_⟩
  unfold bTry at p
  cases hm : b Γ with
  | bad => rw [hm] at p; exact p
  | val z => rw [hm] at p; exact p
  | exc y =>
    rw [hm] at p
    dsimp only at p
    cases hc : xs.contains y.cls with
    | false => rw [hc, if_neg (by decide)] at p; exact p.elim
    | true =>
      rw [hc, if_pos rfl] at p
      have hc : y.cls ∈ xs := by simpa using hc
      intro G1 H1 σ1 C1 d e1 S1 g1 g2
      have hC : C1 = He.ga X.K y.cls := by
        have := (F.mgc y.cls hc).symm.trans g1
        cases this
        rfl
      subst hC
      refine ⟨exIs y.cls x, F.exm x hD y.cls hc, fun ht a ha => ?_, fun hf => ?_⟩
      · rw [if_pos ht] at p
        obtain ⟨S2, e2⟩ := S1.grow (grow_new (o := XvO X.K y.cls d a) S1.w ha)
        have hx : Dn X.K (rg ⟨G1.H0, G1.P, G1.I, upd G1.N a (XvO X.K y.cls d a), G1.E⟩ true) (upd H1 a (XvO X.K y.cls d a)) (.ref a) (xcD y.cls y.flds) := dn_xo upd_same (g2.mono (e2.rgl true) e2.t)
        have S3 := S2.put i hx
        refine ⟨_, _, S3, ?_⟩
        cases hs2 : s (y.st.set i (.dat true (xcD y.cls y.flds))) with
        | bad => rw [hs2] at p; exact p.elim
        | exc z => rw [hs2] at p; exact p.elim
        | val z =>
          rw [hs2] at p
          intro G3 H3 e3
          have q := p G3 H3 ((e1.tr e2).tr e3)
          obtain ⟨w, Γ3⟩ := z
          cases w with
          | nx => exact fun σ4 S4 => q (σ4.set i none) (S4.blank i none)
          | bk => exact fun σ4 S4 => q (σ4.set i none) (S4.blank i none)
          | ct => exact fun σ4 S4 => q (σ4.set i none) (S4.blank i none)
          | rt r =>
            cases r with
            | d v => exact fun σ4 u S4 hu => q σ4 u (S4.forget i) hu
            | c v => exact fun σ4 u H2 S4 hu => q σ4 u H2 (S4.forget i) hu
      · rw [hf, if_neg (by decide)] at p
        exact p G1 H1 σ1 _ d e1 S1 g1 g2
end
/-! ## raise -/
/-- the class c is made of its fields -/
def XMk (X : Cx) (c : Str) (fns : List Str) : Prop :=
  ∀ (e : Expr) (es : List Expr) (t : TA) (p pos : Pos), PA X (e :: es) t → (∀ σ H (Q Q' : List V → Hp → Prop), (∀ vs H1, Q vs H1 → Q' vs H1) → t σ H Q → t σ H Q') → glB X.env.scope c = true → starEach (e :: es) X.env = (false, eval e X.env) :: starEach es X.env → (backTo pos (starEach es X.env)).any (·.1) = false →
    PMk X (.Call (.Name c p) (e :: es) [] pos) (fun σ H Q => t σ H fun vs H1 => vs.length = fns.length ∧ ∀ d, H1 d = none → Q (.ref (He.ga X.K c)) (some d) (upd H1 d (.xd (fns.zip vs).reverse)))
def bRaise (c : Str) (fns : List Str) (k : DA) : DS := fun Γ => (k Γ).bind fun z => match allF z.1 with
  | some (ds, true) => if ds.length = fns.length then .exc ⟨c, (fns.zip ds).reverse, z.2⟩ else .bad
  | _ => .bad
theorem zip_fst {α β : Type} : ∀ (xs : List α) (ys : List β), ys.length = xs.length → (xs.zip ys).map (·.1) = xs
  | [], _, _ => rfl
  | _ :: _, [], h => by cases h
  | x :: xs, y :: ys, h => by
    rw [List.zip_cons_cons, List.map_cons, zip_fst xs ys (by simpa using h)]
theorem zip_snd {α β : Type} : ∀ (xs : List α) (ys : List β), ys.length = xs.length → (xs.zip ys).map (·.2) = ys
  | [], [], _ => rfl
  | [], _ :: _, h => by cases h
  | _ :: _, [], h => by cases h
  | x :: xs, y :: ys, h => by
    rw [List.zip_cons_cons, List.map_cons, zip_snd xs ys (by simpa using h)]
section
variable {X : Cx} {W : WX} {sc : Scope} {N : List Str} {xs ds hs fs fns : List Str} {c : Str} {e : Expr} {es : List Expr} {k : DA} {p pos pos2 : Pos}
theorem c1_raise (C : Cf X W sc N) (F : XAll X.K X.mg xs ds hs fs) (M : XMk X c fns) (hc : c ∈ xs) (hg : glB sc c = true) (ha : CA X W (e :: es) k)
    (he : starEach (e :: es) X.env = (false, eval e X.env) :: starEach es X.env := by rfl) (hpl : (backTo pos (starEach es X.env)).any (·.1) = false := by rfl) : C1 X W (.Raise (some (.Call (.Name c p) (e :: es) [] pos)) none pos2) (bRaise c fns k) := fun Γ => by
  refine ps_imp (ps_raise C.calm C.tk (M e es _ p pos (ha Γ) (fun σ H Q Q' hk ⟨G, S, q⟩ => ⟨G, S, q.imp fun r G1 H1 e1 h vs S1 av => hk vs H1 (h vs S1 av)⟩) (by rw [C.hsc]; exact hg) he hpl)) fun D σ H ⟨G, S, q⟩ => ⟨G, S, (Pst.bind q).imp fun z G1 H1 e1 p1 vs S1 av => ?_⟩
  cases hz : allF z.1 with
  | none => rw [hz] at p1; exact p1.elim
  | some r =>
    obtain ⟨dl, fr⟩ := r
    rw [hz] at p1
    cases fr with
    | false => exact p1.elim
    | true =>
      dsimp only at p1
      have dn := allF_ok hz av
      by_cases hl : dl.length = fns.length
      · rw [if_pos hl] at p1
        have hv : vs.length = fns.length := by rw [← hl]; exact dn.length
        refine ⟨hv, fun d hd => ?_⟩
        obtain ⟨S2, e2⟩ := S1.grow (grow_new (o := .xd (fns.zip vs).reverse) S1.w hd)
        refine p1 _ _ σ (He.ga X.K c) (some d) e2 S2 (F.mgc c hc) (.inl ⟨d, _, rfl, upd_same, ?_, ?_⟩)
        · rw [List.map_reverse, List.map_reverse, zip_fst _ _ hv, zip_fst _ _ hl]
        · rw [List.map_reverse, List.map_reverse, zip_snd _ _ hv, zip_snd _ _ hl]
          exact (e2.dna dn).reverse
      · rw [if_neg hl] at p1
        exact p1.elim
end
end PD


set_option Elab.async false
set_option linter.all false
set_option maxRecDepth 100000
set_option maxHeartbeats 4000000
set_option autoImplicit false
namespace PD
open PySem PySem.Spec L2
/-! ## classes under HuntError with an own __init__ that stores its fields -/
/-- what the written part says of HuntError -/
def huntB (K : PySem.W.Frag) : Bool := PySem.W.readsIn K (He.ga K "HuntError") (.type "type") && (decide (PySem.W.specialIn K (.ref (He.ga K "HuntError")) "__getattribute__" = some (some (.builtin "type.__getattribute__"))) &&
  (match PySem.W.findCls K (.ref (He.ga K "HuntError")) (.type "type") "__init__" with
    | some (.val (.builtin n)) => decide (n = "ValueError.__init__")
    | _ => false))
structure HuntC (K : PySem.W.Frag) (C : Addr) : Prop where
  rd : PySem.W.readsIn K C (.type "type") = true
  ga : PySem.W.specialIn K (.ref C) "__getattribute__" = some (some (.builtin "type.__getattribute__"))
  ini : PySem.W.findCls K (.ref C) (.type "type") "__init__" = some (.val (.builtin "ValueError.__init__"))
theorem huntB_ok {K : PySem.W.Frag} (h : huntB K = true) : HuntC K (He.ga K "HuntError") := by
  unfold huntB at h
  simp only [Bool.and_eq_true] at h
  obtain ⟨h1, h2, h3⟩ := h
  refine ⟨h1, of_decide_eq_true h2, ?_⟩
  split at h3
  · rename_i n e
    rw [e, of_decide_eq_true h3]
  · cases h3
def oexB (K : PySem.W.Frag) (C : Addr) : Bool := (match K.lookup C with
  | some ⟨.type "type", _, .cls cd, sl⟩ => (match cd.mro, sl.toList with
    | .ref C' :: bm, [_, _, _, _, some (.builtin n), _] => C' == C && (n == "ValueError.__new__" && (!cd.hasDel && (cd.hasDict && PySem.HandSPX.refsVE bm)))
    | _, _ => false)
  | _ => false) && (decide (PySem.W.findIn K (.ref C) "__setattr__" = some (some (.builtin "object.__setattr__"))) && (decide (PySem.W.subIn K (.ref C) (.type "BaseException") = some true) && (decide (PySem.W.typeIn K (.ref C) = some (.type "type")) && PySem.W.keepIn K (.ref C))))
theorem oexB_ok {K : PySem.W.Frag} {C : Addr} (h : oexB K C = true) : OexC K C := by
  unfold oexB at h
  rw [Bool.and_eq_true] at h
  obtain ⟨h0, h⟩ := h
  simp only [Bool.and_eq_true] at h
  obtain ⟨h1, h2, h3, h4⟩ := h
  refine ⟨?_, of_decide_eq_true h1, of_decide_eq_true h2, of_decide_eq_true h3, h4⟩
  split at h0
  · rename_i dd cd sl ho
    split at h0
    · rename_i C' bm k0 k1 k2 k3 n k5 hm hs
      simp only [Bool.and_eq_true, beq_iff_eq, Bool.not_eq_true'] at h0
      obtain ⟨rfl, rfl, hdel, hdc, ht⟩ := h0
      obtain ⟨nm, bs, mro, ns, qn, hd, sn, sub, ab, col, del⟩ := cd
      dsimp only at hm hdel hdc
      subst hm hdel hdc
      have e : sl = #[k0, k1, k2, k3, some (.builtin "ValueError.__new__"), k5] := by
        obtain ⟨l⟩ := sl
        dsimp only at hs
        rw [hs]
      subst e
      exact ⟨nm, qn, ns, bs, bm, sn, sub, ab, col, dd, k0, k1, k2, k3, k5, ho, ht⟩
    · cases h0
  · cases h0
section
variable {X : Cx} {e : Expr} {es : List Expr} {ta : TA} {p1 p2 pos : Pos}
/-- HuntError.__init__(self, ..) -/
theorem pe_hinit {CH : Addr} {pl : Sem Bool} (T : HuntC X.K CH) (hg : Gl X "HuntError") (hm : X.mg "HuntError" = some (.ref CH)) (ha : PA X (e :: es) ta)
    (hc : eval (.Call (.Attribute (.Name "HuntError" p1) "__init__" p2) (e :: es) [] pos) X.env = (do
      let ov ← eval (.Name "HuntError" p1) X.env
      standAt p2.atName
      let (f, first) ← holding [ov] (getMethod ov "__init__" pl)
      callWith pos f first (backTo pos (starEach (e :: es) X.env)) (backToKw pos (keywordEach [] X.env))) := by rfl)
    (he : starEach (e :: es) X.env = (false, eval e X.env) :: starEach es X.env := by rfl) (hpl : (backTo pos (starEach es X.env)).any (·.1) = false := by rfl) :
    PE X (.Call (.Attribute (.Name "HuntError" p1) "__init__" p2) (e :: es) [] pos) (tVeI X.K ta) := by
  refine ⟨fun pins s σ H Q I h => ?_⟩
  refine PySem.W.methodCall_KW (ld_glob I hg hm ?_ (by decide +kernel)) hc
  refine PySem.W.method_cls I.kIn T.ga (PySem.W.cls_value I.kIn T.rd T.ini (by decide +kernel) ?_)
  show wpAny _ _ (callWith pos (Value.builtin "ValueError.__init__") [] (backTo pos (starEach (e :: es) X.env)) []) _ _ _
  refine PyProof.Rows.callWith_method1 (thn (ha.run pos pins _ σ H _ (I.tok _) h) fun us s1 ⟨vs, H1, I1, r1, a, C, ws, ev, hl, T, ea, q⟩ => ?_) he hpl
  subst ev
  cases r1 with
  | @cons _ u0 _ ur ra rr =>
    obtain rfl : u0 = Value.ref a := ra
    have hn : ur.length ≤ sizeLine := by
      have e1 := Paired.length rr
      have e2 := sizeLine_eq
      omega
    exact oinit_ok T I1 ea hn fun s2 J => ⟨.non, H1, J, rfl, q⟩
end
/-- what such an __init__ promises -/
def spI (K : PySem.W.Frag) (fns : List Str) : Sp := fun vs H Q _ => ∃ (a C : Addr) (ws : List V), vs = .ref a :: ws ∧ ws.length = fns.length ∧ OexC K C ∧ (∀ f ∈ fns, PySem.W.findIn K (.ref C) f = some none) ∧ H a = some (exo a C none) ∧
  ∀ dx, H dx = none → dx ≠ a → Q .non (upd (upd H dx (exd dx (fns.zip ws).reverse)) a (exo a C (some dx)))
section
variable {P : Program} {w : World} {K : PySem.W.Frag} {mg : Str → Option Value} {base : Heap} {qual : Str} {params : Arguments} {body : List Stmt} {scope : Scope} {fI : Addr} {fd : FuncData} {CH : Addr}
theorem spI_len {fns : List Str} {n : Nat} (hn : fns.length + 1 = n) : ∀ vs H Q E, spI K fns vs H Q E → vs.length = n := fun vs H Q E ⟨a, C, ws, e, h, _⟩ => by
  rw [e, List.length_cons, h, hn]
theorem fi1 {f msg : Str} {j : Nat} {q1 q2 q3 q4 q5 q6 q7 q8 q9 q10 : Pos} (F : FunD K "__init__" qual params body scope [] [] fI fd) (S : FnScope ["self", f] ["self", f] scope)
    (hbd : body = [.Expr (.Call (.Attribute (.Name "HuntError" q1) "__init__" q2) [.Name "self" q3, .Constant (.str msg) j q4] [] q5) q6, .Assign [.Attribute (.Name "self" q7) f q8] (.Name f q9) q10])
    (hc : ∀ env : Env, ∃ pl : Sem Bool, eval (.Call (.Attribute (.Name "HuntError" q1) "__init__" q2) [.Name "self" q3, .Constant (.str msg) j q4] [] q5) env = (do
      let ov ← eval (.Name "HuntError" q1) env
      standAt q2.atName
      let (f, first) ← holding [ov] (getMethod ov "__init__" pl)
      callWith q5 f first (backTo q5 (starEach [.Name "self" q3, .Constant (.str msg) j q4] env)) (backToKw q5 (keywordEach [] env))))
    (hgl : glB scope "HuntError" = true) (hv0 : visB scope "self" = true) (hv1 : visB scope f = true) (hmg : mg "HuntError" = some (.ref CH)) (T : HuntC K CH) (hf1 : (f == ("__debug__" : Str)) = false) (hf2 : (f == ("__classdict__" : Str)) = false) :
    FnOk P w K mg base (L2.CX P w) 1 fI fd ["self", f] (spI K [f]) := by
  refine F.ok S (spI_len rfl) fun cdv A outer s H vs Q E hr ⟨a, C, ws, e, hl, TC, hno, ea, hq⟩ => ?_
  subst e
  obtain ⟨v, rfl⟩ : ∃ v, ws = [v] := by
    cases ws with
    | nil => cases hl
    | cons v r =>
      cases r with
      | nil => exact ⟨v, rfl⟩
      | cons _ _ => cases hl
  subst hbd
  obtain ⟨pl, hc⟩ := hc (PyProof.Rows.envOfC qual scope s.heap.objs.size fI cdv)
  have g : Gl (cxOf (L2.CX P w) P w K mg base ["self", f] qual scope fI cdv A outer s H E) "HuntError" := gl_of hgl
  refine ⟨_, pss_cons (ps_expr (pe_hinit (CH := CH) T g hmg (pa_cons (pe_var (i := 0) rfl (vis_of hv0)) (pa_cons pe_str pa_nil)) (pl := pl) hc)) (pss_cons (ps_ost (pe_var (i := 0) rfl (vis_of hv0)) (pe_var (i := 1) rfl (vis_of hv1) hf1 hf2)) pss_nil), ?_⟩
  refine ⟨.ref a, rfl, a, C, [.str msg], rfl, by simp, TC, ea, ?_⟩
  refine ⟨v, rfl, .ref a, rfl, a, C, rfl, TC, hno f (by simp), .inl ⟨ea, fun dx n ne => hq dx n ne⟩⟩
theorem fi2 {f f2 msg : Str} {j : Nat} {q1 q2 q3 q4 q5 q6 q7 q8 q9 q10 r7 r8 r9 r10 : Pos} (F : FunD K "__init__" qual params body scope [] [] fI fd) (S : FnScope ["self", f, f2] ["self", f, f2] scope)
    (hbd : body = [.Expr (.Call (.Attribute (.Name "HuntError" q1) "__init__" q2) [.Name "self" q3, .Constant (.str msg) j q4] [] q5) q6, .Assign [.Attribute (.Name "self" q7) f q8] (.Name f q9) q10, .Assign [.Attribute (.Name "self" r7) f2 r8] (.Name f2 r9) r10])
    (hc : ∀ env : Env, ∃ pl : Sem Bool, eval (.Call (.Attribute (.Name "HuntError" q1) "__init__" q2) [.Name "self" q3, .Constant (.str msg) j q4] [] q5) env = (do
      let ov ← eval (.Name "HuntError" q1) env
      standAt q2.atName
      let (f, first) ← holding [ov] (getMethod ov "__init__" pl)
      callWith q5 f first (backTo q5 (starEach [.Name "self" q3, .Constant (.str msg) j q4] env)) (backToKw q5 (keywordEach [] env))))
    (hgl : glB scope "HuntError" = true) (hv0 : visB scope "self" = true) (hv1 : visB scope f = true) (hv2 : visB scope f2 = true) (hmg : mg "HuntError" = some (.ref CH)) (T : HuntC K CH) (hf1 : (f == ("__debug__" : Str)) = false) (hf2 : (f == ("__classdict__" : Str)) = false)
    (hg1 : (f2 == ("__debug__" : Str)) = false) (hg2 : (f2 == ("__classdict__" : Str)) = false) :
    FnOk P w K mg base (L2.CX P w) 1 fI fd ["self", f, f2] (spI K [f, f2]) := by
  refine F.ok S (spI_len rfl) fun cdv A outer s H vs Q E hr ⟨a, C, ws, e, hl, TC, hno, ea, hq⟩ => ?_
  subst e
  obtain ⟨v, u, rfl⟩ : ∃ v u, ws = [v, u] := by
    cases ws with
    | nil => cases hl
    | cons v r =>
      cases r with
      | nil => cases hl
      | cons u r =>
        cases r with
        | nil => exact ⟨v, u, rfl⟩
        | cons _ _ => cases hl
  subst hbd
  obtain ⟨pl, hc⟩ := hc (PyProof.Rows.envOfC qual scope s.heap.objs.size fI cdv)
  have g : Gl (cxOf (L2.CX P w) P w K mg base ["self", f, f2] qual scope fI cdv A outer s H E) "HuntError" := gl_of hgl
  refine ⟨_, pss_cons (ps_expr (pe_hinit (CH := CH) T g hmg (pa_cons (pe_var (i := 0) rfl (vis_of hv0)) (pa_cons pe_str pa_nil)) (pl := pl) hc)) (pss_cons (ps_ost (pe_var (i := 0) rfl (vis_of hv0)) (pe_var (i := 1) rfl (vis_of hv1) hf1 hf2))
    (pss_cons (ps_ost (pe_var (i := 0) rfl (vis_of hv0)) (pe_var (i := 2) rfl (vis_of hv2) hg1 hg2)) pss_nil)), ?_⟩
  refine ⟨.ref a, rfl, a, C, [.str msg], rfl, by simp, TC, ea, ?_⟩
  refine ⟨v, rfl, .ref a, rfl, a, C, rfl, TC, hno f (by simp), .inl ⟨ea, fun dx n ne => ?_⟩⟩
  refine ⟨u, rfl, .ref a, rfl, a, C, rfl, TC, hno f2 (by simp), .inr ⟨dx, _, upd_same, (upd_ne ne).trans upd_same, by simp, ?_⟩⟩
  have q := hq dx n ne
  have e2 : upd (upd (upd H dx (exd dx [(f, v)])) a (exo a C (some dx))) dx (exd dx [(f2, u), (f, v)]) = upd (upd H dx (exd dx [(f2, u), (f, v)])) a (exo a C (some dx)) := by
    funext b
    by_cases h1 : b = a
    · rw [h1, upd_ne (Ne.symm ne), upd_same, upd_same]
    · by_cases h2 : b = dx
      · rw [h2, upd_same, upd_ne ne, upd_same]
      · rw [upd_ne h2, upd_ne h1, upd_ne h2, upd_ne h1, upd_ne h2]
  show Q .non _
  rw [e2]
  exact q
end
section
variable {X : Cx} {W : WX} {sc : Scope} {N : List Str}
theorem xmk_of (C : Cf0 X W sc N) {c : Str} {fns ps : List Str} {fd : FuncData} (T : OexC X.K (He.ga X.K c)) (iC : PySem.W.findIn X.K (.ref (He.ga X.K c)) "__init__" = some (some (.ref (He.fAd X.K (c, some "__init__")))))
    (tI : PySem.W.typeIn X.K (.ref (He.fAd X.K (c, some "__init__"))) = some (.type "function")) (hno : ∀ f ∈ fns, PySem.W.findIn X.K (.ref (He.ga X.K c)) f = some none)
    (F1 : FnOk X.prog X.w X.K X.mg X.base (L2.CX X.prog X.w) 1 (He.fAd X.K (c, some "__init__")) fd ps (spI X.K fns)) (hr : Room 2 X.A) (hb : Binds X.K fd ps []) (hm : X.mg c = some (.ref (He.ga X.K c))) (hs : fns.length ≤ 1000)
    (hdb : (c == ("__debug__" : Str)) = false := by decide +kernel) : XMk X c fns := fun e es t p pos ha mn hg he hpl pins s σ H Q I h => by
  refine pmk_oex (ds := []) (dvs := []) T iC tI F1 hr hb .nil (passes_call C.tk fun _ _ _ _ z => z.elim) (gl_of hg) hm ha hdb he hpl pins s σ H Q I ?_
  refine mn _ _ _ _ (fun vs H1 ⟨hl, hq⟩ => ⟨by rw [hl]; exact hs, fun a na => ?_⟩) h
  rw [List.append_nil]
  refine ⟨a, He.ga X.K c, vs, rfl, hl, T, hno, upd_same, fun dx hdx ne => ⟨rfl, dx, (fns.zip vs).reverse, upd_same, (upd_ne ne).trans upd_same, ?_, ?_⟩⟩
  · rw [upd_ne ne] at hdx
    exact hdx
  · have e2 : upd (L2.del (upd (upd (upd H1 a (exo a (He.ga X.K c) none)) dx (exd dx (fns.zip vs).reverse)) a (exo a (He.ga X.K c) (some dx))) a) dx (.xd (fns.zip vs).reverse) = upd H1 dx (.xd (fns.zip vs).reverse) := by
      funext b
      by_cases h1 : b = dx
      · rw [h1, upd_same, upd_same]
      · rw [upd_ne h1, upd_ne h1]
        by_cases h2 : b = a
        · rw [h2, L2.del_same, na]
        · rw [L2.del_ne h2, upd_ne h2, upd_ne h1, upd_ne h2]
    rw [e2]
    rw [upd_ne ne] at hdx
    exact hq dx hdx
end
end PD


set_option Elab.async false
set_option linter.all false
set_option maxRecDepth 100000
set_option maxHeartbeats 4000000
set_option autoImplicit false
namespace PD
open PySem PySem.Spec PyProof.Rows L2
open L2H (RoomH)
/-! ## defs that raise nothing within themselves: they may be called in an except suite too -/
structure FnQ (P : Program) (w : World) (K : PySem.W.Frag) (mg : Str → Option Value) (base : Heap) (k : Nat) (f : Addr) (fd : FuncData) (ps : List Str) (sp : Sp) : Prop where
  len : ∀ vs H Q E, sp vs H Q E → vs.length = ps.length
  run : ∀ (A : Around) (outer : List Env) (s : Shared) (H : Hp) (args : Args) (us : List Value) (vs : List V) (Q : VK) (E : XK), RoomH k A → Env0 P w K mg base A outer s H → BindsTo s fd args (ps.zip us) → Vals vs us → sp vs H Q E →
    codeAny (model P w) A (.call (.ref f) args) (CR (L2.CX P w) outer P w H s Q E) s
abbrev cxQ (P : Program) (w : World) (K : PySem.W.Frag) (mg : Str → Option Value) (base : Heap) (N : List Str) (qual : Str) (scope : Scope) (f : Addr) (cd : Value) (A : Around) (outer : List Env) (s : Shared) (H : Hp) (E : XK) : Cx :=
  { cxOf (L2.CX P w) P w K mg base N qual scope f cd A outer s H E with calm := false }
section
variable {P : Program} {w : World} {K : PySem.W.Frag} {mg : Str → Option Value} {base : Heap} {N ps : List Str} {qual : Str} {scope : Scope} {f : Addr} {cd : Value} {A : Around} {outer : List Env} {s s1 : Shared} {H : Hp} {E : XK} {us : List Value} {vs : List V}
theorem inv_startQ (S : FnScope N ps scope) (e0 : Env0 P w K mg base A outer s H) (hl : vs.length = ps.length) (r : Vals vs us)
    (x : InCallC s s.heap.objs.size (bindL (envOfC qual scope s.heap.objs.size f cd).kindOf (ps.zip us) fun _ => none) (cellsFrom (s.heap.objs.size + 1) scope.names []) (bindC (envOfC qual scope s.heap.objs.size f cd).kindOf (ps.zip us) fun _ => none) s1) :
    Inv (cxQ P w K mg base N qual scope f cd A outer s H E) [] (L2.start N vs) H s1 := by
  have e1 : Env0 P w K mg base { A with handled := none } outer s H := ⟨e0.frames, e0.mod, e0.bs, e0.bsz, e0.funs, e0.frf, e0.hok, e0.bare⟩
  have I := inv_start (CX := L2.CX P w) (E := E) (A := { A with handled := none }) S rfl e1 hl r x
  obtain ⟨o1, o2, o3, o4, o5, o6, o7, o8, o9, o10, o11, o12, o13, o14, o15, o16, o17, o18⟩ := I.ok
  exact ⟨⟨o1, o2, o3, o4, o5, o6, o7, o8, (fun z => by cases (show false = true from z)), Around.frames_deeper e0.frames, o11, o12, o13, o14, o15, o16, o17, o18⟩, I.os, I.bare, I.base, I.loc, I.cell, I.free, I.freeC, I.pin, I.hok, I.len⟩
theorem fn_ofQ {k : Nat} {name : Str} {params : Arguments} {body : List Stmt} {dvs : List V} {kws : List (Str × V)} {fd : FuncData} {sp : Sp} (F : FunD K name qual params body scope dvs kws f fd) (S : FnScope N ps scope) (len : ∀ vs H Q E, sp vs H Q E → vs.length = ps.length)
    (hbody : ∀ (cdv : Value) (A : Around) (outer : List Env) (s : Shared) (H : Hp) (vs : List V) (Q : VK) (E : XK), RoomH k (A.deeper (envOfC qual scope s.heap.objs.size f cdv)) → sp vs H Q E →
      ∃ t, PSs (cxQ P w K mg base N qual scope f cdv A outer s H E) body t ∧ t { nx := fun _ H' => Q .non H', rt := Q } (L2.start N vs) H) : FnQ P w K mg base (k + 1) f fd ps sp := by
  obtain ⟨oc, od, dV, kV, doc, pm, an, cdv, ct, osl, rfl, lk, hcd, _, _⟩ := F.ex
  refine ⟨len, fun A outer s H args us vs Q E hr e0 hb r hsp => ?_⟩
  have KX : K.In s.heap := e0.mod.kin.keeps fun b o e => (e0.bs b o e).1
  have lim : s.heap.NoLimit := e0.mod.nolimit.keeps fun b o e => (e0.bs b o e).1
  have kinds : ∀ y ∈ ps.zip us, scope.names.lookup y.1 = some .local ∨ (scope.names.lookup y.1 = some .cell ∧ ((cellsFrom (s.heap.objs.size + 1) scope.names []).lookup y.1).isSome = true) := by
    rintro ⟨n, v⟩ hy
    rcases S.par n (List.of_mem_zip hy).1 with q | q
    · exact .inl q
    · exact .inr ⟨q, PySem.W.cellsFrom_some _ _ _ (.inl q)⟩
  refine codeAny_call_function hr.depth (KX _ _ lk) rfl S.co S.gen rfl (PySem.W.codeRec_of KX hcd) (hb _ _ _ _ (wpAny_newFunctionEnv_cells S.kind kinds fun env he s1 x => ?_))
  subst he
  refine ⟨lim.keeps x.toInCall.keep, codeAny_func ?_⟩
  obtain ⟨t, ht, hq⟩ := hbody cdv A outer s H vs Q E (hr.deeper _) hsp
  refine wpAny_mono (ht.run [] s1 (L2.start N vs) H _ (inv_startQ S e0 (len _ _ _ _ hsp) r x) hq) (fun fl s2 hs => ?_) fun e s2 hs => hs
  cases fl with
  | ret u =>
    obtain ⟨v, σ2, H2, J, rv, q⟩ := hs
    exact ⟨v, H2, J.os, J.bare, J.base, J.hok, rv, q⟩
  | next =>
    obtain ⟨σ2, H2, J, q⟩ := hs
    exact ⟨V.non, H2, J.os, J.bare, J.base, J.hok, rfl, q⟩
  | brk =>
    obtain ⟨_, _, _, q⟩ := hs
    exact q.elim
  | cont =>
    obtain ⟨_, _, _, q⟩ := hs
    exact q.elim
end
/-- the context of such a def's body -/
structure HereQ (X : Cx) (W : WX) (P : Program) (w : World) (K : PySem.W.Frag) (mg : Str → Option Value) (base : Heap) (scope : Scope) (N : List Str) (k : Nat) : Prop where
  cf : Cf0 X W scope N
  prog : X.prog = P
  w : X.w = w
  K : X.K = K
  mg : X.mg = mg
  base : X.base = base
  room : RoomH k X.A
  fn : ∀ x, X.fn x = true
section
variable {P : Program} {w : World} {K : PySem.W.Frag} {mg : Str → Option Value} {base : Heap} {N ps : List Str} {name qual : Str} {scope : Scope} {f : Addr} {k : Nat} {params : Arguments} {body : List Stmt} {dvs : List V} {kws : List (Str × V)} {fd : FuncData}
theorem fn_uQ (F : FunD K name qual params body scope dvs kws f fd) (S : FnScope N ps scope) {b : DS} (hle : ps.length ≤ N.length) (hb : ∀ X W, HereQ X W P w K mg base scope N k → CS X W body b) :
    FnQ P w K mg base (k + 1) f fd ps (spU K mg (runB N.length ps.length b)) :=
  fn_ofQ F S fn_len fun cdv A outer s H vs Q E hr hsp => by
    obtain ⟨Γ, h⟩ := fn_pre hle (X := cxQ P w K mg base N qual scope f cdv A outer s H E) rfl rfl hsp
    refine ⟨_, hb _ _ ⟨⟨rfl, rfl, S.nd, takes_of rfl rfl rfl rfl, ?_, passes_of rfl, ?_⟩, rfl, rfl, rfl, rfl, rfl, hr, fun x => rfl⟩ Γ, h⟩
    · have := hr.un
      show (A.deeper _).units + 64 < cLine
      omega
    · have := hr.un
      show (A.deeper _).units + 150 < cLine
      omega
end
def CleeQ (X : Cx) (x : Str) (dvs : List V) (sp : Sp) : Prop :=
  ∃ (k : Nat) (f : Addr) (fd : FuncData) (ps : List Str) (ds : List Value), FnQ X.prog X.w X.K X.mg X.base k f fd ps sp ∧ RoomH k X.A ∧ X.mg x = some (.ref f) ∧ PySem.W.keepIn X.K (.ref f) = true ∧ Binds X.K fd ps ds ∧ Vals dvs ds
section
variable {X : Cx} {W : WX} {sc : Scope} {N : List Str} {x : Str} {e : Expr} {es : List Expr} {p pos : Pos} {k : DA} {dvs : List V} {dds : List PyData} {m : List Ar → R (Rs × List Sl)} {t : TA}
theorem CleeQ.suite {sp : Sp} (h : CleeQ X x dvs sp) (a : Addr) (pn : List (Addr × Obj)) : CleeQ (X.suite a pn) x dvs sp := by
  obtain ⟨k, f, fd, ps, ds, h1, h2, h3⟩ := h
  exact ⟨k, f, fd, ps, ds, h1, ⟨h2.dp, h2.un⟩, h3⟩
theorem run_fnQ {pins : List (Addr × Obj)} {σ : L2.St} {H : Hp} {s : Shared} {Q : VK} {us ds : List Value} {vs : List V} {j : Nat} {f : Addr} {fd : FuncData} {ps : List Str} {sp : Sp} {E : XK} (F : FnQ X.prog X.w X.K X.mg X.base j f fd ps sp) (hr : RoomH j X.A) (hb : Binds X.K fd ps ds) (hd : Vals dvs ds)
    (hx : PassesAt (L2.CX X.prog X.w) X σ E) (I : Inv X pins σ H s) (r : Vals vs us) (h : sp (vs ++ dvs) H Q E) : wpAny (model X.prog X.w) X.A (call (.ref f) us) (EP X pins σ Q) X.xe s := by
  have r2 : Vals (vs ++ dvs) (us ++ ds) := r.append hd
  have hl : (us ++ ds).length = ps.length := r2.length.symm.trans (F.len _ _ _ _ h)
  refine wpAny_call (codeAny_mono (F.run X.A X.stack s H ⟨us, []⟩ (us ++ ds) (vs ++ dvs) Q E hr I.env0 (hb s us I.kIn hl) r2 h) fun z s2 hq => ?_)
  cases z with
  | error e => exact hx pins H s e s2 I hq
  | ok fl =>
    cases fl with
    | ret u => exact I.after hq
    | next => exact hq.elim
    | brk => exact hq.elim
    | cont => exact hq.elim
theorem cx_callQ (C : Cf0 X W sc N) (hc : CleeQ X x dvs (spU X.K X.mg m)) (hg : glB sc x = true) (hdv : ∀ G H, DnA X.K G H dvs dds) (ha : CA X W (e :: es) k)
    (hdb : (x == ("__debug__" : Str)) = false := by decide +kernel) (he : starEach (e :: es) X.env = (false, eval e X.env) :: starEach es X.env := by rfl) (hpl : (backTo pos (starEach es X.env)).any (·.1) = false := by rfl) : CX X W (.Call (.Name x p) (e :: es) [] pos) (xCall m dds k) := fun Γ => by
  obtain ⟨k', f, fd, ps, dss, F, hr, hm, hk, hb, hd⟩ := hc
  refine ⟨fun pins s σ H Q I h => ?_⟩
  obtain ⟨G, S, q⟩ := h
  refine wpAny_Call_Name_kw (ld_glob I (C.gl hg) hm ?_ hdb)
  refine PySem.W.callWith_K (h₀ := X.base) I.ok.mod.kin hk (thn ((ha Γ).run pos pins s σ H (fun vs H1 => spU X.K X.mg m (vs ++ dvs) H1 Q (fun cls d H => W cls d σ H)) I ⟨G, S, (Pst.bind q).imp fun z G1 H1 e1 p1 vs S1 av => ?_⟩) fun us s1 ⟨vs, H1, I1, r, q⟩ => ⟨I1.kIn, ?_⟩) he hpl
  · obtain ⟨ds, hds, p1⟩ := Pst.ofO p1
    refine callD_core hdv S1 av hds ((Pst.bind p1).imp fun r G2 H2 e2 p2 S2 => ?_)
    have p2 := p2 G2 H2 (Ext.rf S2.w)
    cases hz : r.1 with
    | d w =>
      rw [hz] at p2
      exact fun v hv => p2 v S2 hv
    | c w =>
      rw [hz] at p2
      exact fun v H3 hn => p2 v H3 S2 hn
  · exact run_fnQ F hr hb hd (passAt C.tk σ) I1 r q
end
/-- a def that keeps its promise in a suite, by its name -/
def GvQ (P : Program) (w : World) (K : PySem.W.Frag) (mg : Str → Option Value) (base : Heap) (k : Nat) (x : Str) (dvs : List V) (sp : Sp) : Prop :=
  ∃ (f : Addr) (fd : FuncData) (ps : List Str) (ds : List Value), FnQ P w K mg base k f fd ps sp ∧ mg x = some (.ref f) ∧ PySem.W.keepIn K (.ref f) = true ∧ Binds K fd ps ds ∧ Vals dvs ds
theorem GvQ.u {P : Program} {w : World} {K : PySem.W.Frag} {mg : Str → Option Value} {base : Heap} {k k' : Nat} {x : Str} {dvs : List V} {m : List Ar → R (Rs × List Sl)} {scope : Scope} {X : Cx} {W : WX} {N : List Str} (g : GvQ P w K mg base k x dvs (spU K mg m)) (h : Here X W P w K mg base scope N k') (hk : k ≤ k') : CleeQ X x dvs (spU X.K X.mg m) := by
  obtain ⟨f, fd, ps, ds, h1, h2, h3, h4, h5⟩ := g
  have e1 := h.prog
  have e2 := h.w
  have e3 := h.K
  have e4 := h.mg
  have e5 := h.base
  subst e1 e2 e3 e4 e5
  exact ⟨k, f, fd, ps, ds, h1, (L2H.roomH_of h.room).mono hk, h2, h3, h4, h5⟩
theorem GvQ.uq {P : Program} {w : World} {K : PySem.W.Frag} {mg : Str → Option Value} {base : Heap} {k k' : Nat} {x : Str} {dvs : List V} {m : List Ar → R (Rs × List Sl)} {scope : Scope} {X : Cx} {W : WX} {N : List Str} (g : GvQ P w K mg base k x dvs (spU K mg m)) (h : HereQ X W P w K mg base scope N k') (hk : k ≤ k') : CleeQ X x dvs (spU X.K X.mg m) := by
  obtain ⟨f, fd, ps, ds, h1, h2, h3, h4, h5⟩ := g
  have e1 := h.prog
  have e2 := h.w
  have e3 := h.K
  have e4 := h.mg
  have e5 := h.base
  subst e1 e2 e3 e4 e5
  exact ⟨k, f, fd, ps, ds, h1, h.room.mono hk, h2, h3, h4, h5⟩
end PD


set_option Elab.async false
set_option linter.all false
set_option maxRecDepth 100000
set_option maxHeartbeats 4000000
set_option autoImplicit false
namespace PD
open PySem PySem.Spec L2
/-! ## the parts of a walk with exceptions -/
theorem Clee.tr {X : Cx} {x : Str} {dvs : List V} {sp : Sp} (h : Clee X x dvs sp) {pn : List (Addr × Obj)} {xe : Value → Shared → Prop} : Clee (X.tr pn xe) x dvs sp := h
theorem CleeK.tr {X : Cx} {x : Str} {n : Nat} {ks : List Str} {dvs : List V} {sp : Sp} (h : CleeK X x n ks dvs sp) {pn : List (Addr × Obj)} {xe : Value → Shared → Prop} : CleeK (X.tr pn xe) x n ks dvs sp := h
theorem all_nil {p : Str → Prop} : ∀ c ∈ ([] : List Str), p c := fun c h => by cases h
theorem all_cons {p : Str → Prop} {a : Str} {as : List Str} (h : p a) (r : ∀ c ∈ as, p c) : ∀ c ∈ a :: as, p c := fun c hc => by
  rcases List.mem_cons.mp hc with z | z
  · rw [z]; exact h
  · exact r c z
/-- the def __init__ of a class -/
def isInit : Stmt → Bool
  | .FunctionDef n _ _ _ _ _ _ _ _ _ => decide (n = "__init__")
  | _ => false
def clsInit : Stmt → Stmt
  | .ClassDef _ _ _ body _ _ _ _ _ _ _ => (body.find? isInit).getD (.Pass ⟨0, 0, 0, 0⟩)
  | s => s
/-- what the written part says of a class with an own __init__ -/
def iniB (K : PySem.W.Frag) (c : Str) : Bool := oexB K (He.ga K c) && (decide (PySem.W.findIn K (.ref (He.ga K c)) "__init__" = some (some (.ref (He.fAd K (c, some "__init__"))))) && decide (PySem.W.typeIn K (.ref (He.fAd K (c, some "__init__"))) = some (.type "function")))
structure IniC (K : PySem.W.Frag) (c : Str) : Prop where
  T : OexC K (He.ga K c)
  iC : PySem.W.findIn K (.ref (He.ga K c)) "__init__" = some (some (.ref (He.fAd K (c, some "__init__"))))
  tI : PySem.W.typeIn K (.ref (He.fAd K (c, some "__init__"))) = some (.type "function")
theorem iniB_ok {K : PySem.W.Frag} {c : Str} (h : iniB K c = true) : IniC K c := by
  unfold iniB at h
  simp only [Bool.and_eq_true] at h
  exact ⟨oexB_ok h.1, of_decide_eq_true h.2.1, of_decide_eq_true h.2.2⟩
def Sh1 (f : Str) (body : List Stmt) : Prop := ∃ (msg : Str) (j : Nat) (q1 q2 q3 q4 q5 q6 q7 q8 q9 q10 : Pos), body = [.Expr (.Call (.Attribute (.Name "HuntError" q1) "__init__" q2) [.Name "self" q3, .Constant (.str msg) j q4] [] q5) q6, .Assign [.Attribute (.Name "self" q7) f q8] (.Name f q9) q10] ∧
  ∀ env : Env, ∃ pl : Sem Bool, eval (.Call (.Attribute (.Name "HuntError" q1) "__init__" q2) [.Name "self" q3, .Constant (.str msg) j q4] [] q5) env = (do
    let ov ← eval (.Name "HuntError" q1) env
    standAt q2.atName
    let (f, first) ← holding [ov] (getMethod ov "__init__" pl)
    callWith q5 f first (backTo q5 (starEach [.Name "self" q3, .Constant (.str msg) j q4] env)) (backToKw q5 (keywordEach [] env)))
def Sh2 (f f2 : Str) (body : List Stmt) : Prop := ∃ (msg : Str) (j : Nat) (q1 q2 q3 q4 q5 q6 q7 q8 q9 q10 r7 r8 r9 r10 : Pos), body = [.Expr (.Call (.Attribute (.Name "HuntError" q1) "__init__" q2) [.Name "self" q3, .Constant (.str msg) j q4] [] q5) q6, .Assign [.Attribute (.Name "self" q7) f q8] (.Name f q9) q10,
    .Assign [.Attribute (.Name "self" r7) f2 r8] (.Name f2 r9) r10] ∧
  ∀ env : Env, ∃ pl : Sem Bool, eval (.Call (.Attribute (.Name "HuntError" q1) "__init__" q2) [.Name "self" q3, .Constant (.str msg) j q4] [] q5) env = (do
    let ov ← eval (.Name "HuntError" q1) env
    standAt q2.atName
    let (f, first) ← holding [ov] (getMethod ov "__init__" pl)
    callWith q5 f first (backTo q5 (starEach [.Name "self" q3, .Constant (.str msg) j q4] env)) (backToKw q5 (keywordEach [] env)))
section
variable {P : Program} {w : World} {K : PySem.W.Frag} {mg : Str → Option Value} {base : Heap} {X : Cx} {W : WX} {scope : Scope} {N : List Str} {k : Nat} {xs ds hs fs : List Str} {c f f2 qual : Str} {params : Arguments} {body : List Stmt} {sc : Scope} {fd : FuncData}
theorem xm1 (h : Here X W P w K mg base scope N k) (hk : 2 ≤ k) (F : FunD K "__init__" qual params body sc [] [] (He.fAd K (c, some "__init__")) fd) (B : Binds K fd ["self", f] []) (I : IniC K c) (A : XAll K mg xs ds hs fs) (T : HuntC K (He.ga K "HuntError")) (hm : mg "HuntError" = some (.ref (He.ga K "HuntError")))
    (hc : c ∈ xs) (hf : f ∈ fs) (S : FnScope ["self", f] ["self", f] sc) (hbd : Sh1 f body) (g : glB sc "HuntError" = true) (v0 : visB sc "self" = true) (v1 : visB sc f = true) (hf1 : (f == ("__debug__" : Str)) = false := by decide +kernel) (hf2 : (f == ("__classdict__" : Str)) = false := by decide +kernel)
    (hdb : (c == ("__debug__" : Str)) = false := by decide +kernel) : XMk X c [f] := by
  obtain ⟨msg, j, q1, q2, q3, q4, q5, q6, q7, q8, q9, q10, hb, he⟩ := hbd
  have e1 := h.prog
  have e2 := h.w
  have e3 := h.K
  have e4 := h.mg
  have e5 := h.base
  subst e1 e2 e3 e4 e5
  have hno : ∀ n ∈ [f], PySem.W.findIn X.K (.ref (He.ga X.K c)) n = some none := fun n hn => by
    have : n = f := by simpa using hn
    rw [this]
    exact A.fld c hc f hf
  exact xmk_of h.cf.toCf0 I.T I.iC I.tI hno (fi1 F S hb he g v0 v1 hm T hf1 hf2) (h.room.mono hk) B (A.mgc c hc) (by simp) hdb
theorem xm2 (h : Here X W P w K mg base scope N k) (hk : 2 ≤ k) (F : FunD K "__init__" qual params body sc [] [] (He.fAd K (c, some "__init__")) fd) (B : Binds K fd ["self", f, f2] []) (I : IniC K c) (A : XAll K mg xs ds hs fs) (T : HuntC K (He.ga K "HuntError")) (hm : mg "HuntError" = some (.ref (He.ga K "HuntError")))
    (hc : c ∈ xs) (hf : f ∈ fs) (hg : f2 ∈ fs) (S : FnScope ["self", f, f2] ["self", f, f2] sc) (hbd : Sh2 f f2 body) (g : glB sc "HuntError" = true) (v0 : visB sc "self" = true) (v1 : visB sc f = true) (v2 : visB sc f2 = true) (hf1 : (f == ("__debug__" : Str)) = false := by decide +kernel)
    (hf2 : (f == ("__classdict__" : Str)) = false := by decide +kernel) (hg1 : (f2 == ("__debug__" : Str)) = false := by decide +kernel) (hg2 : (f2 == ("__classdict__" : Str)) = false := by decide +kernel)
    (hdb : (c == ("__debug__" : Str)) = false := by decide +kernel) : XMk X c [f, f2] := by
  obtain ⟨msg, j, q1, q2, q3, q4, q5, q6, q7, q8, q9, q10, r7, r8, r9, r10, hb, he⟩ := hbd
  have e1 := h.prog
  have e2 := h.w
  have e3 := h.K
  have e4 := h.mg
  have e5 := h.base
  subst e1 e2 e3 e4 e5
  have hno : ∀ n ∈ [f, f2], PySem.W.findIn X.K (.ref (He.ga X.K c)) n = some none := fun n hn => by
    have : n = f ∨ n = f2 := by simpa using hn
    rcases this with z | z
    · rw [z]; exact A.fld c hc f hf
    · rw [z]; exact A.fld c hc f2 hg
  exact xmk_of h.cf.toCf0 I.T I.iC I.tI hno (fi2 F S hb he g v0 v1 v2 hm T hf1 hf2 hg1 hg2) (h.room.mono hk) B (A.mgc c hc) (by simp) hdb
end
/-! ## the head: facts of the written part as tests -/
def obsX (fx : List (PySem.W.Frag → Bool)) (fa : List He.Fa) (fn : List He.DefD) (K : PySem.W.Frag) : He.AlD := ((fx.all fun f => f K) && (He.obsD fa fn K).1, (He.obsD fa fn K).2)
def SaysX (fx : List (PySem.W.Frag → Bool)) (fa : List He.Fa) (fn : List He.DefD) (K : PySem.W.Frag) : Prop := obsX fx fa fn K = He.valD fn
def obsXG (n : Nat) (fx : List (PySem.W.Frag → Bool)) (fa : List He.Fa) (fn : List He.DefD) (g : Addr → Option Obj) : He.AlD := obsX fx fa fn (He.frG g (He.asD g n ++ [PySem.cStatics]))
def hookX (n : Nat) (fx : List (PySem.W.Frag → Bool)) (fa : List He.Fa) (fn : List He.DefD) : PySem.W.Hook where
  α := He.AlD
  obs := fun s => obsXG n fx fa fn s.heap.get?
  val := fun _ => He.valD fn
  says := fun _ h => ∃ K : PySem.W.Frag, K.In h ∧ SaysX fx fa fn K
  of := fun _ _ e => ⟨_, He.frG_in, e⟩
  keeps := fun _ _ _ ⟨K, hK, c⟩ k => ⟨K, PySem.W.Frag.In.keeps hK k, c⟩
theorem obsXG_eq {n : Nat} {fx : List (PySem.W.Frag → Bool)} {fa : List He.Fa} {fn : List He.DefD} {g : Addr → Option Obj} {s : Shared} (h : ∀ a, g a = s.heap.get? a) : obsXG n fx fa fn g = (hookX n fx fa fn).obs s := by
  have e : g = s.heap.get? := funext h
  rw [e] <;> rfl
theorem SaysX.d {fx : List (PySem.W.Frag → Bool)} {fa : List He.Fa} {fn : List He.DefD} {K : PySem.W.Frag} (c : SaysX fx fa fn K) : He.SaysD fa fn K := by
  have c : ((fx.all fun f => f K) && (He.obsD fa fn K).1, (He.obsD fa fn K).2) = He.valD fn := c
  have e1 : ((fx.all fun f => f K) && (He.obsD fa fn K).1) = true := congrArg (fun z : He.AlD => z.1) c
  have e2 : (He.obsD fa fn K).2 = (He.valD fn).2 := (Prod.mk.inj (c.trans (show He.valD fn = ((He.valD fn).1, (He.valD fn).2) from rfl))).2
  exact Prod.ext (Bool.and_eq_true_iff.mp e1).2 e2
theorem SaysX.x {fx : List (PySem.W.Frag → Bool)} {fa : List He.Fa} {fn : List He.DefD} {K : PySem.W.Frag} (c : SaysX fx fa fn K) (i : Nat) {f : PySem.W.Frag → Bool} (h : fx[i]? = some f := by rfl) : f K = true := by
  have c : ((fx.all fun f => f K) && (He.obsD fa fn K).1, (He.obsD fa fn K).2) = He.valD fn := c
  have e1 : ((fx.all fun f => f K) && (He.obsD fa fn K).1) = true := congrArg (fun z : He.AlD => z.1) c
  exact List.all_eq_true.mp (Bool.and_eq_true_iff.mp e1).1 f (List.mem_of_getElem? h)
end PD


set_option Elab.async false
set_option linter.all false
set_option maxRecDepth 100000
set_option maxHeartbeats 4000000
set_option autoImplicit false
namespace PD
open PySem PySem.Spec L2
open PyProof.Rows hiding St
/-! ## xs.count(d) -/
def rCnt (K : PySem.W.Frag) : V → List V → Hp → VK → Prop := fun x xs H Q => ∃ (p : Addr) (vs : List V) (y : V), x = .ref p ∧ xs = [y] ∧ SqL K H p vs ∧ flatV y = true ∧ vs.all flatV = true ∧ Q (.int (vs.countP (fun z => eqV z y) : Nat)) H
theorem countP_eqU {x : V} : ∀ {xs : List V} {us : List Value}, Vals xs us → xs.all flatV = true → us.countP (eqU x) = xs.countP fun y => eqV y x
  | _, _, .nil, _ => rfl
  | y :: xs, u :: us, .cons r t, f => by
    rw [List.all_cons, Bool.and_eq_true] at f
    rw [List.countP_cons, List.countP_cons, eqU_of r f.1, countP_eqU t f.2]
theorem mt_cnt {X : Cx} : MtR X "list.count" (rCnt X.K) := by
  rintro pins s σ H x xs v us Q I rx rxs ⟨p, ws, y, rfl, rfl, hs, fy, fw, q⟩
  cases rx
  obtain ⟨u, rfl, ru⟩ := rxs.one
  obtain ⟨its, rv, ⟨⟨cls, dd, data, sl⟩, n, ho, hc, hdn, hd⟩, hlen⟩ := I.list hs
  dsimp only at hc hd
  subst hc hd
  refine call_meets PySem.F.slot_list_count ⟨_, ho, rfl⟩ PySem.F.entry_list_count (PySem.F.args_list_count_2 _ _)
    (SeqAt.list_countAt p its.toArray n dd sl u (eqU y)) ⟨ho, fun w hw => mem_eqAt ru fy rv fw w (by simpa using hw), ?_⟩
  have ec : its.toArray.toList.countP (eqU y) = ws.countP fun z => eqV z y := countP_eqU rv fw
  refine ⟨.int (ws.countP (fun z => eqV z y) : Nat), H, I.tok _, ⟨s.toks, ?_⟩, q⟩
  show Value.int ((its.toArray.toList.countP (eqU y) : Nat) : Int) s.toks = Value.int ((ws.countP (fun z => eqV z y) : Nat) : Int) s.toks
  rw [ec]
theorem cntV_ok {K : PySem.W.Frag} {G : Rg} {H : Hp} {v : V} {p : PyData} (h : Dn K G H v p) (hf : flD p = true) : ∀ {vs : List V} {ds : List PyData}, DnA K G H vs ds → ds.all flD = true → vs.all flatV = true ∧ vs.countP (fun z => eqV z v) = ds.countP fun z => PyData.eqv z p
  | _, _, .nil, _ => ⟨rfl, rfl⟩
  | _, _, .cons q r, hq => by
    simp only [List.all_cons, Bool.and_eq_true] at hq
    obtain ⟨h1, h2⟩ := cntV_ok h hf r hq.2
    refine ⟨by simp [h1, flD_ok q hq.1], ?_⟩
    rw [List.countP_cons, List.countP_cons, h2, eqV_ok q h hq.1 hf]
def isLst : PyData → Bool
  | .list _ => true
  | _ => false
def dCnt (f g : DF) : DF := fun Γ => (f Γ).bind fun x => (R.req (((rdD x.2 x.1).map isLst).getD false)).bind fun _ => (g x.2).bind fun y => match rdD y.2 x.1, rdD y.2 y.1 with
  | some (.list ds), some d => gq (flD d && ds.all flD) (.d true (.int (ds.countP (fun z => PyData.eqv z d) : Nat)), y.2)
  | _, _ => .bad
section
variable {X : Cx} {W : WX} {sc : Scope} {N : List Str} {a b e o : Expr} {p p2 pos apos cpos : Pos} {f g h : DF}
theorem ce_cnt (ha : CE X W o f) (hb : CE X W e g) (hbase : attributeBase o "count" X.env (eval o X.env) = eval o X.env := by rfl)
    (hfew : ((backTo cpos (starEach [e] X.env)).all (fun x => !x.1) && (backToKw cpos (keywordEach [] X.env)).all (fun x => x.1.isSome)
      && decide ([e].length + ([] : List Keyword).length + (if ([] : List Keyword).isEmpty then 0 else 1) < 30)) = true := by rfl)
    (hline : (apos.endLine == cpos.line) = true := by rfl) (hs : starEach [e] X.env = (false, eval e X.env) :: starEach [] X.env := by rfl) :
    CE X W (.Call (.Attribute o "count" apos) [e] [] cpos) (dCnt f g) := fun Γ => by
  refine pe_imp (pe_bm PySem.F.plainAttrs_list PySem.F.slot_list_count PySem.F.type_list_count mt_cnt (ha Γ) (pa_any fun x : AV × List Sl => pa_cons (hb x.2) pa_nil hs) hbase hfew hline hs (by rfl)) fun σ H Q ⟨G, S, q⟩ => ⟨G, S, (Pst.bind q).imp fun x G1 H1 e1 p1 v S1 hv => ?_⟩
  have key : ∀ {G2 H2} (y : AV × List Sl), Ext G1 H1 G2 H2 → ∀ u, Sta X.K G2 H2 σ y.2 → AVok X.K G2 H2 σ u y.1 → Pst X W G2 H2 σ (match rdD y.2 x.1, rdD y.2 y.1 with
      | some (.list ds), some d => gq (flD d && ds.all flD) ((AV.d true (.int (ds.countP (fun z => PyData.eqv z d) : Nat))), y.2)
      | _, _ => .bad) (fun z G' H' => ∀ w, Sta X.K G' H' σ z.2 → AVok X.K G' H' σ w z.1 → Q w H') → rCnt X.K v [u] H2 Q := by
    intro G2 H2 y e2 u S2 hu p2
    split at p2
    · rename_i ds d h1 h2
      obtain ⟨hc, p2⟩ := Pst.gq S2.w p2
      rw [Bool.and_eq_true] at hc
      obtain ⟨l, ws, rfl, hl, hd⟩ := dn_list ((rdD_ok h1).ok S2 (hv.ext e2))
      have hdu := (rdD_ok h2).ok S2 hu
      obtain ⟨c1, c2⟩ := cntV_ok hdu hc.1 hd hc.2
      exact ⟨l, ws, u, rfl, rfl, hl.sq, flD_ok hdu hc.1, c1, p2 _ S2 (by rw [c2]; exact .int _)⟩
    · exact p2.elim
  obtain ⟨hl, p1⟩ := Pst.req p1
  have ht : ∃ ds, rdD x.2 x.1 = some (.list ds) := by
    cases hx : rdD x.2 x.1 with
    | none => rw [hx] at hl; cases hl
    | some d => cases d <;> first | exact ⟨_, rfl⟩ | (rw [hx] at hl; cases hl)
  obtain ⟨ds0, hx⟩ := ht
  obtain ⟨l, ws, rfl, hl0, hd0⟩ := dn_list ((rdD_ok hx).ok S1 hv)
  refine ⟨.inl ⟨rfl, ws, hl0.sq⟩, x, G1, S1, (Pst.bind p1).imp fun y G2 H2 e2 p2 u S2 hu => ?_⟩
  exact key y e2 u S2 hu p2
/-! ## list(range(a, b, c)), c from 1 on -/
def rngC (a b c : Int) : List Int := (List.range (Builtin.Range.rangeSize a b c).toNat).map fun i => a + (i : Nat) * c
def cLr3 (a b c : Int) : Bool := decide (0 < c) && (decide (c.natAbs < 1073741824) && (decide (-(2 ^ 60) ≤ a ∧ a < 2 ^ 60 ∧ -(2 ^ 60) ≤ b ∧ b < 2 ^ 60) && (Builtin.Range.small a b c && (decide (0 ≤ Builtin.Range.rangeSize a b c) && decide ((Builtin.Range.rangeSize a b c).toNat ≤ 2 ^ 20)))))
def dLrng3 (f g h : DF) : DN := fun Γ => (f Γ).bind fun x => (g x.2).bind fun y => (h y.2).bind fun z => (R.ofO (intA x.1)).bind fun i => (R.ofO (intA y.1)).bind fun j => (R.ofO (intA z.1)).bind fun k => gq (cLr3 i j k) ((rngC i j k).map PyData.int, z.2)
theorem valsC {a b c : Int} {acc : Array Value} (h : ItemsOf (fun i v => ∃ t, v = .int (a + i * c) t) acc (Builtin.Range.rangeSize a b c).toNat) : Vals ((rngC a b c).map V.int) acc.toList := by
  have e : acc.toList.length = (Builtin.Range.rangeSize a b c).toNat := by rw [Array.length_toList]; exact h.1
  unfold rngC
  rw [List.map_map, ← e]
  refine vals_of_get acc.toList _ fun j u hj => ?_
  obtain ⟨t, rfl⟩ := h.2 j u (by rw [← hj, Array.getElem?_toList])
  exact ⟨t, rfl⟩
theorem cn_lrng3 (C : Cf X W sc N) {p4 : Pos} {c : Expr} (hg : glB sc "list" = true) (hm : X.mg "list" = none) (hg2 : glB sc "range" = true) (hm2 : X.mg "range" = none) (ha : CE X W a f) (hb : CE X W b g) (hc : CE X W c h)
    (na : starEach [a, b, c] X.env = (false, eval a X.env) :: starEach [b, c] X.env := by rfl) (nb : starEach [b, c] X.env = (false, eval b X.env) :: starEach [c] X.env := by rfl) (nc : starEach [c] X.env = (false, eval c X.env) :: starEach [] X.env := by rfl)
    (hpl : (backTo p2 (starEach [b, c] X.env)).any (·.1) = false := by rfl) (no : starEach [.Call (.Name "range" p4) [a, b, c] [] p2] X.env = (false, eval (.Call (.Name "range" p4) [a, b, c] [] p2) X.env) :: starEach [] X.env := by rfl) :
    CN X W (.Call (.Name "list" p) [.Call (.Name "range" p4) [a, b, c] [] p2] [] pos) (dLrng3 f g h) := fun Γ => by
  refine ⟨fun pins s σ H Q I ⟨G, S, q⟩ => ?_⟩
  refine Call_ (ld_blt I (C.gl hg) hm boot_list (PyProof.Rows.callWith_type1 (args_cons (thn (Q := fun v s1 => ∃ r i j k t t' t'' H1 G1 Γ1, v = .ref r ∧ IsRange s1.heap r i j k t t' t'' ∧ Inv X pins σ H1 s1 ∧ Sta X.K G1 H1 σ Γ1 ∧ Pst X W G1 H1 σ (gq (cLr3 i j k) ((rngC i j k).map PyData.int, Γ1)) (fun r G' H' => ∀ p vs, Sta X.K G' H' σ r.2 → H' p = none → DnA X.K (rg G' true) H' vs r.1 → Q (.ref p) (upd H' p (.lst vs)))) ?_ fun u x hx => args_nil ?_) no) no))
  · refine Call_ (ld_blt I (C.gl hg2) hm2 boot_range (PyProof.Rows.callWith_type1 (thn ((pa_cons (ha Γ) (pa_any fun x : AV × List Sl => pa_cons (hb x.2) (pa_any fun y : AV × List Sl => pa_cons (hc y.2) pa_nil nc) nb) na).run p2 pins s σ H
      (fun vs H1 => ∃ i j k G1 Γ1, vs = [.int i, .int j, .int k] ∧ Sta X.K G1 H1 σ Γ1 ∧ Pst X W G1 H1 σ (gq (cLr3 i j k) ((rngC i j k).map PyData.int, Γ1)) (fun r G' H' => ∀ p vs, Sta X.K G' H' σ r.2 → H' p = none → DnA X.K (rg G' true) H' vs r.1 → Q (.ref p) (upd H' p (.lst vs)))) I ?_) fun us s1 hh => ?_) na hpl))
    · refine ⟨G, S, (Pst.bind q).imp fun x G1 H1 e1 p1 v S1 hv => ⟨x, G1, S1, (Pst.bind p1).imp fun y G2 H2 e2 p2 u S2 hu => ⟨y, G2, S2, (Pst.bind p2).imp fun z G3 H3 e3 p3 w S3 hw => ?_⟩⟩⟩
      obtain ⟨i, hi, p3⟩ := Pst.ofO p3
      obtain ⟨j, hj, p3⟩ := Pst.ofO p3
      obtain ⟨k, hk, p3⟩ := Pst.ofO p3
      refine ⟨i, j, k, G3, z.2, ?_, S3, p3⟩
      rw [intA_ok hi (hv.ext (e2.tr e3)), intA_ok hj (hu.ext e3), intA_ok hk hw]
    · obtain ⟨vs, H1, I1, r1, i, j, k, G1, Γ1, rfl, S1, p1⟩ := hh
      have hcc : cLr3 i j k = true := (Pst.gq S1.w p1).1
      have hcc2 := hcc
      unfold cLr3 at hcc2
      simp only [Bool.and_eq_true, decide_eq_true_eq] at hcc2
      obtain ⟨c0, c1, _⟩ := hcc2
      cases r1 with
      | cons r rr =>
        cases rr with
        | cons r' rr =>
          cases rr with
          | cons r'' rr =>
            cases rr
            obtain ⟨t, rfl⟩ := r
            obtain ⟨t', rfl⟩ := r'
            obtain ⟨t'', rfl⟩ := r''
            refine call_range_3 (by omega) ?_ (.inl (PyProof.noPylong_small c1))
            exact ⟨_, i, j, k, t, t', t'', H1, G1, Γ1, rfl, IsRange.new .., I1.kept (t' := s1.toks) fun b o e => Heap.get?_push_of_some _ e, S1, p1⟩
  · obtain ⟨r, i, j, k, t, t', t'', H1, G1, Γ1, rfl, hr, I1, S1, p1⟩ := hx
    obtain ⟨hcc, p1⟩ := Pst.gq S1.w p1
    unfold cLr3 at hcc
    simp only [Bool.and_eq_true, decide_eq_true_eq] at hcc
    obtain ⟨c0, c1, c2, c3, c4, c5⟩ := hcc
    refine call_list_range (n := (Builtin.Range.rangeSize i j k).toNat) (I1.ok.hd C.calm) hr c3 (by omega) (by omega) fun h' tk acc c' hk e' hi => ?_
    have hv := valsC hi
    have hl : ((rngC i j k).map V.int).length = (Builtin.Range.rangeSize i j k).toNat := by unfold rngC; simp
    refine ⟨.ref x.heap.objs.size, upd H1 x.heap.objs.size (.lst ((rngC i j k).map V.int)), I1.laid hk (Nat.le_refl _) (show ObjOk X.prog X.w _ _ _ (.lst ((rngC i j k).map V.int)) from ⟨?_, acc.toList, c', hv, ?_⟩), rfl, p1 _ _ S1 (I1.hok.fresh (Nat.le_refl _)) (ints_dna _)⟩
    · rw [hl, sizeLine_eq]; omega
    · rw [Array.toArray_toList]; exact e'
end
end PD


set_option Elab.async false
set_option linter.all false
set_option maxRecDepth 100000
set_option maxHeartbeats 4000000
set_option autoImplicit false
namespace PD
open PySem PySem.Spec L2
open PyProof.Rows hiding St
/-! ## tuples of the module -/
def GT (K : PySem.W.Frag) (mg : Str → Option Value) (x : Str) (vs : List V) (ds : List PyData) : Prop := mg x = some (.ref (He.ga K x)) ∧ (∀ H, SqT K H (He.ga K x) vs) ∧ ∀ G H, DnA K G H vs ds
/-- d in T, d not in T -/
def dInG (neg : Bool) (ds : List PyData) (f : DF) : DF := fun Γ => (f Γ).bind fun x => match x.1 with
  | .d _ d => gq (flD d && ds.all flD) (.d true (.bool (if neg then !(ds.any fun z => PyData.eqv z d) else ds.any fun z => PyData.eqv z d)), x.2)
  | _ => .bad
def dIxG (ds : List PyData) (f : DF) : DF := fun Γ => (f Γ).bind fun x => match x.1 with
  | .d _ (.int i) => (R.ofO (atI ds i)).bind fun d => .val (.d true d, x.2)
  | _ => .bad
section
variable {X : Cx} {W : WX} {sc : Scope} {N : List Str} {e : Expr} {p pos : Pos} {f : DF} {x : Str} {vs : List V} {ds : List PyData}
theorem ce_inGx (C : Cf0 X W sc N) (neg : Bool) {op : CmpOp} (ho : OpR X (compareOp op) (rIn X.K neg)) (T : GT X.K X.mg x vs ds) (hg : glB sc x = true) (ha : CE X W e f) (hm : behindInMarks op (.Name x p) = false)
    (hdb : (x == ("__debug__" : Str)) = false) : CE X W (.Compare e [op] [.Name x p] pos) (dInG neg ds f) := fun Γ => by
  have hT : PE X (.Name x p) (tC (.ref (He.ga X.K x))) := pe_glob (C.gl hg) T.1 rfl hdb
  refine pe_imp (pe_cmpR ho (ha Γ) hT hm) fun σ H Q ⟨G, S, q⟩ => ⟨G, S, (Pst.bind q).imp fun z G1 H1 e1 p1 v S1 hv => ?_⟩
  split at p1
  · rename_i fr d hz
    rw [hz] at hv
    have hv : Dn X.K (rg G1 fr) H1 v d := hv
    obtain ⟨hc, p1⟩ := Pst.gq S1.w p1
    rw [Bool.and_eq_true] at hc
    obtain ⟨c1, c2⟩ := inV_ok hv hc.1 (T.2.2 (rg G1 fr) H1) hc.2
    refine ⟨_, vs, rfl, .inr (T.2.1 H1), flD_ok hv hc.1, c1, ?_⟩
    rw [c2]
    exact p1 _ S1 (.bl _)
  · exact p1.elim
theorem ce_inG (C : Cf0 X W sc N) (T : GT X.K X.mg x vs ds) (hg : glB sc x = true) (ha : CE X W e f) (hm : behindInMarks .In (.Name x p) = false := by rfl) (hdb : (x == ("__debug__" : Str)) = false := by decide +kernel) :
    CE X W (.Compare e [.In] [.Name x p] pos) (dInG false ds f) := ce_inGx C false op_in_seq T hg ha hm hdb
theorem ce_notinG (C : Cf0 X W sc N) (T : GT X.K X.mg x vs ds) (hg : glB sc x = true) (ha : CE X W e f) (hm : behindInMarks .NotIn (.Name x p) = false := by rfl) (hdb : (x == ("__debug__" : Str)) = false := by decide +kernel) :
    CE X W (.Compare e [.NotIn] [.Name x p] pos) (dInG true ds f) := ce_inGx C true op_notIn_seq T hg ha hm hdb
theorem ce_ixG (C : Cf0 X W sc N) (T : GT X.K X.mg x vs ds) (hg : glB sc x = true) (hf : ds.all flat = true) (ha : CE X W e f) (hs : PlainIx e := by exact fun _ _ => rfl) (hdb : (x == ("__debug__" : Str)) = false := by decide +kernel) : CE X W (.Subscript (.Name x p) e pos) (dIxG ds f) := fun Γ => by
  have hT : PE X (.Name x p) (tC (.ref (He.ga X.K x))) := pe_glob (C.gl hg) T.1 rfl hdb
  refine pe_imp (pe_ix ix_seq hT (ha Γ) hs) fun σ H Q ⟨G, S, q⟩ => ⟨G, S, (Pst.bind q).imp fun z G1 H1 e1 p1 v S1 hv => ?_⟩
  split at p1
  · rename_i fr i hz
    rw [hz] at hv
    obtain ⟨d, hd, p1⟩ := Pst.ofO p1
    obtain ⟨w, g3, g4⟩ := atI_dn (T.2.2 (rg G1 true) H1) hd
    exact .inr (.inl ⟨_, vs, i, w, rfl, dn_int hv, T.2.1 H1, g3, p1 G1 H1 (Ext.rf S1.w) w S1 g4⟩)
  · exact p1.elim
end
end PD


set_option Elab.async false
set_option linter.all false
set_option maxRecDepth 100000
set_option maxHeartbeats 4000000
set_option autoImplicit false
namespace PD
open PySem PySem.Spec L2
open PyProof.Rows hiding St
/-! ## dicts locked for ever, and walked -/
def tLk (t : TE) : TE := fun σ H Q => t σ H fun v H1 => Q v H1 ∨ ∃ d u, H1 d = some u ∧ Mut (some u) ∧ ∀ od, Q v (upd H1 d (.frz od u))
theorem pe_lk {X : Cx} {e : Expr} {t : TE} (h : PE X e t) : PE X e (tLk t) := by
  refine ⟨fun pins s σ H Q I hw => ?_⟩
  refine thn (h.run pins s σ H _ I hw) fun v s1 ⟨x, H1, I1, r, q⟩ => ?_
  rcases q with q | ⟨d, u, hd, mu, q⟩
  · exact ⟨x, H1, I1, r, q⟩
  · obtain ⟨od, I2⟩ := I1.lock hd mu
    exact ⟨x, _, I2, r, q od⟩
/-- a list or dict of one's own is given away -/
def frzK : AV × List Sl → R (AV × List Sl)
  | (.s i, Γ) => match Γ[i]? with
    | some (.own (.dic _ kvs)) => .val (.d true (.dict kvs), Γ.set i (.dat true (.dict kvs)))
    | _ => frzA (.s i, Γ)
  | z => frzA z
def dFrzK (f : DF) : DF := fun Γ => (f Γ).bind frzK
section
variable {X : Cx} {W : WX} {sc : Scope} {N : List Str} {e tg : Expr} {apos cpos p : Pos} {f : DF}
theorem frzK_ok {G : Gh} {H : Hp} {σ : St} {x : AV} {Γ : List Sl} {v : V} {Q : VK} (S : Sta X.K G H σ Γ) (hv : AVok X.K G H σ v x) (p : Pk X W G H σ (frzK (x, Γ)) Q) : Q v H ∨ ∃ d u, H d = some u ∧ Mut (some u) ∧ ∀ od, Q v (upd H d (.frz od u)) := by
  unfold frzK at p
  split at p
  · rename_i i Γ2 hz
    cases hz
    split at p
    · rename_i t kvs hi
      obtain ⟨d, u, hd, mu, k⟩ := S.lockDic i hi
      refine .inr ⟨d, u, hd, mu, fun od => ?_⟩
      obtain ⟨G2, S2, e2⟩ := k od
      have h2 : (Γ.set i (.dat true (.dict kvs)))[i]? = some (.dat true (.dict kvs)) := set_at (List.getElem?_eq_some_iff.mp hi).1
      obtain ⟨A2, T2⟩ := id S2
      obtain ⟨_, w, g1, g2⟩ := T2.sl i _ h2
      have hv : σ[i]? = some (some v) := hv
      rw [hv] at g1
      cases g1
      exact Pk.v' p e2 S2 g2
    · exact .inl (frz_ok S hv p)
  · exact .inl (frz_ok S hv p)
theorem ce_frzK (ha : CE X W e f) : CE X W e (dFrzK f) := fun Γ =>
  pe_imp (pe_lk (ha Γ)) fun σ H Q ⟨G, S, q⟩ => ⟨G, S, (Pst.bind q).imp fun x G1 H1 e1 p1 v S1 hv => frzK_ok (x := x.1) (Γ := x.2) S1 hv p1⟩
theorem ce_appendK (C : Cf0 X W sc N) (i : Nat) {x : Str} (hN : N[i]? = some x) (hv : visB sc x = true) (ha : CE X W e f) (hs : starEach [e] X.env = (false, eval e X.env) :: starEach [] X.env := by rfl) (hd : (x == ("__debug__" : Str)) = false := by decide +kernel) (hcd : (x == ("__classdict__" : Str)) = false := by decide +kernel) (hline : (apos.endLine == cpos.line) = true := by rfl)
    (hbase : attributeBase (.Name x p) "append" X.env (eval (.Name x p) X.env) = eval (.Name x p) X.env := by rfl) : CE X W (.Call (.Attribute (.Name x p) "append" apos) [e] [] cpos) (dLm i qAppend (dAc (dFrzK f) dA0)) := by
  refine ce_lm C qAppend PySem.F.slot_list_append PySem.F.type_list_append mt_append (fun as ds G H σ p ws Q hp hd vs av y hy => ?_) i hN hv (ca_cons (ce_frzK ha) ca_nil hs) (fun ds as z h => ?_) hd hcd (by rw [hs]; rfl) hline hs rfl hbase
  · unfold qAppend at hy
    split at hy
    · rename_i z
      obtain ⟨hc, rfl⟩ := gq_val hy
      obtain ⟨v, rfl, hv⟩ := avs_one av
      have hv : Dn X.K (rg G true) H v z := hv
      exact ⟨ws ++ [v], .non, hd.append (.cons hv .nil), .non, fun q => ⟨p, ws, v, rfl, rfl, hp, by rw [hd.length]; exact of_decide_eq_true hc, q⟩⟩
    · cases hy
  · unfold qAppend at h
    split at h
    · exact gq_nox h
    · cases h
/-! ## for k in d -/
theorem kV_dn {K : PySem.W.Frag} {G : Rg} {H : Hp} (k : Key) : Dn K G H (kV k) (keyD k) := by
  cases k with
  | inl i => exact .int i
  | inr x => exact .str x
theorem itd_keys {K : PySem.W.Frag} {G : Gh} {H : Hp} {a : Addr} {o : Obj} {ks : List (Key × V)} {fr fr2 : Bool} (h : rg G fr a (.frz o (.dK ks))) : ItD K G H (Itk a o ks) (ks.map fun z => keyD z.1) fr2 := by
  have sq : ∀ G2 H2, Le G H G2 H2 → H2 a = some (.frz o (.dK ks)) := fun G2 H2 e => e.w.rgl fr _ _ (e.rgl fr _ _ h)
  refine ⟨fun i G2 H2 hi e => ⟨sq G2 H2 e, by simpa using hi⟩, fun i G2 H2 σ Γ v H3 hi e S y => ?_, fun G2 H2 e => ⟨sq G2 H2 e, by simp⟩⟩
  obtain ⟨rfl, k, w, hk, rfl⟩ := y
  exact ⟨G2, keyD k, by rw [List.getElem?_map, hk]; rfl, Ext.rf S.w, S, kV_dn k⟩
def keyA : AV → Option (List PyData × Bool)
  | .d _ (.dict kvs) => match kindD kvs with
    | some .k => some (kvs.map (·.1), true)
    | _ => none
  | _ => none
def iKeyD (f : DF) : DI := fun Γ => (f Γ).bind fun z => (R.ofO (keyA z.1)).bind fun y => .val (y, z.2)
theorem ci_keyD (h : CE X W e f) : CI X W tg e (iKeyD f) := fun Γ => by
  have h := h Γ
  unfold iKeyD
  cases hf : f Γ with
  | bad => exact pi_no fun σ H Q ⟨G, S, q⟩ => q
  | exc x =>
    rw [hf] at h
    exact pi_imp (pi_keys h) fun σ H Q ⟨G, S, q⟩ => ⟨G, S, q⟩
  | val z =>
    rw [hf] at h
    obtain ⟨y, Γ1⟩ := z
    cases hy : keyA y with
    | none =>
      refine pi_no fun σ H Q ⟨G, S, q⟩ => ?_
      have q : Pst X W G H σ ((R.ofO (keyA y)).bind fun y => R.val (y, Γ1)) (fun r G' H' => ∀ J, Sta X.K G' H' σ r.2 → ItD X.K G' H' J r.1.1 r.1.2 → Q J H') := q
      rw [hy] at q
      exact q
    | some w =>
      have key : ∀ {σ H Q}, rdIU X W Γ ((R.val (y, Γ1)).bind fun z => (R.ofO (keyA z.1)).bind fun y => .val (y, z.2)) σ H Q → ∃ G, Sta X.K G H σ Γ ∧ ∀ G' H', Ext G H G' H' → ∀ J, Sta X.K G' H' σ Γ1 → ItD X.K G' H' J w.1 w.2 → Q J H' := fun {σ H Q} ⟨G, S, q⟩ => by
        have q : Pst X W G H σ ((R.ofO (keyA y)).bind fun y => R.val (y, Γ1)) (fun r G' H' => ∀ J, Sta X.K G' H' σ r.2 → ItD X.K G' H' J r.1.1 r.1.2 → Q J H') := q
        rw [hy] at q
        exact ⟨G, S, q⟩
      unfold keyA at hy
      split at hy
      · rename_i fr kvs
        split at hy
        · rename_i hk
          cases hy
          refine pi_imp (pi_keys h) fun σ H Q z => ?_
          obtain ⟨G, S, q⟩ := key z
          refine ⟨G, S, fun G' H' e' v S' a => ?_⟩
          obtain ⟨l, o, t', vs, rfl, ⟨ob, h1⟩, h2, h3⟩ := dn_dict a hk
          have := kindD_ok hk h2
          subst this
          obtain ⟨ks, rfl, hks, _⟩ := h2
          refine ⟨l, ob, rfl, .inl ⟨ks, S'.w.rgl _ _ _ h1, q G' H' e' _ S' ?_⟩⟩
          show ItD X.K G' H' (Itk l ob ks) (kvs.map (·.1)) true
          rw [hks]
          exact itd_keys h1
        · cases hy
      · cases hy
end
end PD




set_option linter.all false
set_option maxRecDepth 100000
set_option autoImplicit false
/-! plain: what a mirror answers -/
namespace PD
open PySem L2
def Ok {α : Type} (m : R α) (P : α → Prop) : Prop := ∃ a, m = .val a ∧ P a
section
variable {α β : Type} {P : α → Prop} {Q : β → Prop}
theorem ok_val {a : α} (h : P a) : Ok (.val a) P := ⟨a, rfl, h⟩
theorem ok_bind {m : R α} {k : α → R β} (h : Ok m P) (hk : ∀ a, P a → Ok (k a) Q) : Ok (m.bind k) Q := by
  obtain ⟨a, rfl, p⟩ := h
  exact hk a p
theorem Ok.mono {P' : α → Prop} {m : R α} (h : Ok m P) (hk : ∀ a, P a → P' a) : Ok m P' := by
  obtain ⟨a, e, p⟩ := h
  exact ⟨a, e, hk a p⟩
theorem ok_of {m : R α} {a : α} (h : m = .val a) (p : P a) : Ok m P := ⟨a, h, p⟩
theorem ok_eq {m : R α} {a : α} (h : Ok m fun z => z = a) : m = .val a := by
  obtain ⟨b, e, rfl⟩ := h
  exact e
theorem ok_iff_bind {m : R α} {k : α → R β} : Ok (m.bind k) Q ↔ Ok m fun a => Ok (k a) Q := by
  constructor
  · rintro ⟨b, e, q⟩
    cases m with
    | val a => exact ⟨a, rfl, b, e, q⟩
    | exc x => cases e
    | bad => cases e
  · exact fun h => ok_bind h fun a q => q
theorem ok_iff_val {a : α} : Ok (.val a) P ↔ P a := ⟨fun ⟨b, e, q⟩ => by cases e; exact q, ok_val⟩
end
theorem bind_val {α β : Type} (a : α) (k : α → R β) : (R.val a).bind k = k a := rfl
theorem bind_bad {α β : Type} (k : α → R β) : (R.bad).bind k = R.bad := rfl
theorem req_true : R.req true = .val () := rfl
theorem ofO_some {α : Type} (a : α) : R.ofO (some a) = .val a := rfl
theorem gq_true {α : Type} (a : α) : gq true a = .val a := rfl
theorem gq_of {α : Type} {c : Bool} (a : α) (h : c = true) : gq c a = .val a := by subst h; rfl
theorem req_of {c : Bool} (h : c = true) : R.req c = .val () := by subst h; rfl
theorem ofO_of {α : Type} {o : Option α} {a : α} (h : o = some a) : R.ofO o = .val a := by subst h; rfl
/-- slots by place -/
theorem get0 (a : Sl) (l : List Sl) : (a :: l)[0]? = some a := rfl
theorem getS (a : Sl) (l : List Sl) (n : Nat) : (a :: l)[n + 1]? = l[n]? := rfl
/-! ## loops -/
/-- a for loop, by what holds behind the first i items -/
theorem ok_loopU {is : List Nat} {g : DG} {fr : Bool} {b : DS} {Post : Fw × List Sl → Prop} (Inv : Nat → List Sl → Prop) (ds : List PyData) {Γ : List Sl} (h0 : Inv 0 (wipeG Γ is))
    (hb : ∀ i d Γ, ds[i]? = some d → Inv i Γ → ∃ Γ1, g fr d Γ = some Γ1 ∧ Ok (b Γ1) fun z => match z.1 with
      | .nx => Inv (i + 1) (wipeG z.2 is)
      | .ct => Inv (i + 1) (wipeG z.2 is)
      | .bk => Post (.nx, wipeG z.2 is)
      | .rt r => Post (.rt r, z.2)) (hd : ∀ Γ, Inv ds.length Γ → Post (.nx, Γ)) : Ok (loopU is g fr b ds Γ) Post := by
  have key : ∀ (n : Nat) (xs : List PyData) (Γ : List Sl), (∀ j, xs[j]? = ds[n + j]?) → n + xs.length = ds.length → Inv n (wipeG Γ is) → Ok (loopU is g fr b xs Γ) Post := by
    intro n xs
    induction xs generalizing n with
    | nil =>
      intro Γ _ hl h
      unfold loopU
      refine ok_val (hd _ ?_)
      have : ds.length = n := by simpa using hl.symm
      rw [this]; exact h
    | cons d xs ih =>
      intro Γ hx hl h
      unfold loopU
      obtain ⟨Γ1, e1, o⟩ := hb n d _ (by have := hx 0; simpa using this.symm) h
      rw [e1, ofO_some, bind_val]
      refine ok_bind o fun z hz => ?_
      obtain ⟨w, Γ2⟩ := z
      have hx' : ∀ j, xs[j]? = ds[n + 1 + j]? := fun j => by
        have := hx (j + 1)
        simp only [List.getElem?_cons_succ] at this
        rw [this]; congr 1; omega
      cases w with
      | nx => exact ih (n + 1) Γ2 hx' (by simp at hl; omega) hz
      | ct => exact ih (n + 1) Γ2 hx' (by simp at hl; omega) hz
      | bk => exact ok_val hz
      | rt r => exact ok_val hz
  exact key 0 ds Γ (fun j => by simp) (by simp) h0
/-- a while loop, by a measure -/
theorem ok_loopW {is : List Nat} {c : DT} {b : DS} {Post : Fw × List Sl → Prop} (Inv : Nat → List Sl → Prop)
    (hb : ∀ n Γ, Inv n Γ → Ok (c Γ) fun x => if x.1 then Ok (b x.2) fun z => match z.1 with
      | .nx => ∃ m, m < n ∧ Inv m (wipeG z.2 is)
      | .ct => ∃ m, m < n ∧ Inv m (wipeG z.2 is)
      | .bk => Post (.nx, wipeG z.2 is)
      | .rt r => Post (.rt r, z.2) else Post (.nx, x.2)) : ∀ (fuel n : Nat) (Γ : List Sl), n < fuel → Inv n (wipeG Γ is) → Ok (loopW is c b fuel Γ) Post := by
  intro fuel
  induction fuel with
  | zero => intro n Γ h; omega
  | succ f ih =>
    intro n Γ hn h
    unfold loopW
    refine ok_bind (hb n _ h) fun x hx => ?_
    by_cases e : x.1 = true
    · rw [if_pos e] at hx ⊢
      refine ok_bind hx fun z hz => ?_
      obtain ⟨w, Γ2⟩ := z
      cases w with
      | nx => obtain ⟨m, h1, h2⟩ := hz; exact ih m Γ2 (by omega) h2
      | ct => obtain ⟨m, h1, h2⟩ := hz; exact ih m Γ2 (by omega) h2
      | bk => exact ok_val hz
      | rt r => exact ok_val hz
    · rw [if_neg e] at hx ⊢
      exact ok_val hx
/-- a comprehension -/
theorem ok_compU {vs : List Nat} {g : DG} {fr : Bool} {t : DT} {e : DF} {Post : List PyData × List Sl → Prop} (Inv : Nat → List PyData → List Sl → Prop) (ds : List PyData) {Γ : List Sl} (h0 : Inv 0 [] Γ)
    (hb : ∀ i d out Γ, ds[i]? = some d → Inv i out Γ → ∃ Γ1, g fr d Γ = some Γ1 ∧ Ok (t Γ1) fun x => if x.1 then Ok (e x.2) fun y => ∃ o, avD y.1 = some o ∧ Inv (i + 1) (out ++ [o]) (wipeG y.2 vs) else Inv (i + 1) out (wipeG x.2 vs))
    (hd : ∀ out Γ, Inv ds.length out Γ → Post (out, Γ)) : Ok (compU vs g fr t e ds Γ) Post := by
  have key : ∀ (n : Nat) (xs : List PyData) (pre : List PyData) (Γ : List Sl), (∀ j, xs[j]? = ds[n + j]?) → n + xs.length = ds.length → Inv n pre Γ → Ok (compU vs g fr t e xs Γ) fun z => Post (pre ++ z.1, z.2) := by
    intro n xs
    induction xs generalizing n with
    | nil =>
      intro pre Γ _ hl h
      unfold compU
      refine ok_val ?_
      have : ds.length = n := by simpa using hl.symm
      show Post (pre ++ [], Γ)
      rw [List.append_nil]
      exact hd _ _ (by rw [this]; exact h)
    | cons d xs ih =>
      intro pre Γ hx hl h
      rw [compU_cons]
      obtain ⟨Γ1, e1, o⟩ := hb n d pre Γ (by have := hx 0; simpa using this.symm) h
      have hx' : ∀ j, xs[j]? = ds[n + 1 + j]? := fun j => by
        have := hx (j + 1)
        simp only [List.getElem?_cons_succ] at this
        rw [this]; congr 1; omega
      rw [e1]
      obtain ⟨x, ex, ox⟩ := o
      rw [ofO_some, bind_val, ex]
      show Ok (if x.1 then _ else _) _
      by_cases hc : x.1 = true
      · rw [if_pos hc] at ox ⊢
        obtain ⟨y, ey, w, ew, hw⟩ := ox
        rw [ey]
        show Ok ((R.ofO (avD y.1)).bind _) _
        rw [ew, ofO_some, bind_val]
        refine ok_bind (ih (n + 1) (pre ++ [w]) _ hx' (by simp at hl; omega) hw) fun r hr => ok_val ?_
        show Post (pre ++ w :: r.1, r.2)
        have : pre ++ w :: r.1 = pre ++ [w] ++ r.1 := by simp
        rw [this]; exact hr
      · rw [if_neg hc] at ox ⊢
        exact ih (n + 1) pre _ hx' (by simp at hl; omega) ox
  have := key 0 ds [] Γ (fun j => by simp) (by simp) h0
  refine this.mono fun z hz => ?_
  simpa using hz

end PD


set_option linter.all false
set_option maxRecDepth 100000
set_option autoImplicit false
/-! plain: steps of a mirror -/
namespace PD
open PySem L2
section
variable {Γ Γ1 Γ2 Γ3 : List Sl} {f g h : DF} {k : DA} {n : DN} {c : DC} {t t2 : DT} {fr fr2 : Bool} {d : PyData} {i j : Int} {z z2 : Bool} {ds es : List PyData} {a b : AV} {as : List AV}
theorem e_var {m : Nat} (e : Γ[m]? = some (.dat fr d)) : dVar m Γ = .val (.d fr d, Γ) := by unfold dVar; rw [e]
theorem e_varO {m : Nat} {c : Cl} (e : Γ[m]? = some (.own c)) : dVar m Γ = .val (.s m, Γ) := by unfold dVar; rw [e]
theorem e_varI {m : Nat} {c : Cl} (e : Γ[m]? = some (.io c)) : dVar m Γ = .val (.s m, Γ) := by unfold dVar; rw [e]
theorem e_C : dC d Γ = .val (.d true d, Γ) := rfl
theorem e_I {kk : Int → Int → R Int} {r : Int} (h1 : f Γ = .val (.d fr (.int i), Γ1)) (h2 : g Γ1 = .val (.d fr2 (.int j), Γ2)) (h3 : kk i j = .val r) : dI kk f g Γ = .val (.d true (.int r), Γ2) := by
  unfold dI; rw [h1, bind_val, h2, bind_val]; simp only; rw [h3, bind_val]
theorem k_sub : kSub i j = .val (i - j) := rfl
theorem k_and : kAnd i j = .val (Builtin.bitAnd i j) := rfl
theorem k_or : kOr i j = .val (Builtin.bitOr i j) := rfl
theorem k_mul (e : cMulX i j = true) : kMul i j = .val (i * j) := gq_of _ e
theorem k_div (e : cDiv i j = true) : kDiv i j = .val (i / j) := gq_of _ e
theorem k_mod (e : cMod i j = true) : kMod i j = .val (i % j) := gq_of _ e
theorem k_pow (e : cPow i j = true) : kPow i j = .val (i ^ j.toNat) := gq_of _ e
theorem k_shl (e : cShl i j = true) : kShl i j = .val (i * 2 ^ j.toNat) := gq_of _ e
theorem k_shr (e : cShr i j = true) : kShr i j = .val (i / 2 ^ j.toNat) := gq_of _ e
theorem e_add (h1 : f Γ = .val (.d fr (.int i), Γ1)) (h2 : g Γ1 = .val (.d fr2 (.int j), Γ2)) : dAdd f g Γ = .val (.d true (.int (i + j)), Γ2) := by
  unfold dAdd; rw [h1, bind_val, h2, bind_val]; rfl
theorem e_neg (h1 : f Γ = .val (.d fr (.int i), Γ1)) : dNeg f Γ = .val (.d true (.int (-i)), Γ1) := by
  unfold dNeg; rw [h1, bind_val]
theorem e_cmp {kk : List Sl → AV → AV → R Bool} (h1 : f Γ = .val (a, Γ1)) (h2 : g Γ1 = .val (b, Γ2)) (h3 : kk Γ2 a b = .val z) : dCmp kk f g Γ = .val (.d true (.bool z), Γ2) := by
  unfold dCmp boolR; rw [h1, bind_val, h2, bind_val, h3, bind_val]
theorem k_eqI : kEq Γ (.d fr (.int i)) (.d fr2 (.int j)) = .val (decide (i = j)) := by unfold kEq rdD; exact gq_of _ rfl
theorem k_neI : kNe Γ (.d fr (.int i)) (.d fr2 (.int j)) = .val (!decide (i = j)) := by unfold kNe; rw [k_eqI]; rfl
theorem k_eq {p q : PyData} (h1 : rdD Γ a = some p) (h2 : rdD Γ b = some q) (s1 : SeqAt.shaped p = true) (s2 : SeqAt.shaped q = true) (e : PyData.eqv p q = z) : kEq Γ a b = .val z := by
  unfold kEq; rw [h1, h2]; simp only [s1, s2, Bool.and_true]; rw [e]; rfl
theorem k_ne {p q : PyData} (h1 : rdD Γ a = some p) (h2 : rdD Γ b = some q) (s1 : SeqAt.shaped p = true) (s2 : SeqAt.shaped q = true) (e : PyData.eqv p q = z) : kNe Γ a b = .val (!z) := by
  unfold kNe; rw [k_eq h1 h2 s1 s2 e]; rfl
theorem k_I {r : Int → Int → Bool} : kI r Γ (.d fr (.int i)) (.d fr2 (.int j)) = .val (r i j) := rfl
theorem k_is {p : PyData} (h : rdD Γ a = some p) : kIs Γ a (.d fr .none) = .val (isN p) := by unfold kIs; rw [h]
theorem k_nis {p : PyData} (h : rdD Γ a = some p) : kNis Γ a (.d fr .none) = .val (!isN p) := by unfold kNis; rw [k_is h]; rfl
theorem t_tst (h1 : f Γ = .val (.d fr (.bool z), Γ1)) : dTst f Γ = .val (z, Γ1) := by unfold dTst; rw [h1]; rfl
theorem t_not (h1 : t Γ = .val (z, Γ1)) : dTnot t Γ = .val (!z, Γ1) := by unfold dTnot; rw [h1]; rfl
theorem t_or (h1 : t Γ = .val (z, Γ1)) (h2 : z = false → t2 Γ1 = .val (z2, Γ1)) : dTor t t2 Γ = .val (z || z2, Γ1) := by
  unfold dTor; rw [h1, bind_val]
  cases z with
  | true => rfl
  | false =>
    show ((t2 Γ1).bind fun y => R.val y) = _
    rw [h2 rfl]; rfl
theorem t_and (h1 : t Γ = .val (z, Γ1)) (h2 : z = true → t2 Γ1 = .val (z2, Γ1)) : dTand t t2 Γ = .val (z && z2, Γ1) := by
  unfold dTand; rw [h1, bind_val]
  cases z with
  | false => rfl
  | true =>
    show ((t2 Γ1).bind fun y => R.val y) = _
    rw [h2 rfl]; rfl
theorem e_not (h1 : f Γ = .val (.d fr (.bool z), Γ1)) : dNot f Γ = .val (.d true (.bool (!z)), Γ1) := by unfold dNot; rw [h1]; rfl
theorem e_and (h1 : f Γ = .val (.d fr (.bool z), Γ1)) (h2 : z = true → g Γ1 = .val (.d fr2 (.bool z2), Γ1)) : dAnd f g Γ = .val (.d true (.bool (z && z2)), Γ1) := by
  unfold dAnd; rw [h1, bind_val]
  cases z with
  | false => rfl
  | true => show ((g Γ1).bind _) = _; rw [h2 rfl]; rfl
theorem e_or (h1 : f Γ = .val (.d fr (.bool z), Γ1)) (h2 : z = false → g Γ1 = .val (.d fr2 (.bool z2), Γ1)) : dOr f g Γ = .val (.d true (.bool (z || z2)), Γ1) := by
  unfold dOr; rw [h1, bind_val]
  cases z with
  | true => rfl
  | false => show ((g Γ1).bind _) = _; rw [h2 rfl]; rfl
theorem e_if {r : R (AV × List Sl)} (h1 : t Γ = .val (z, Γ1)) (h2 : z = true → f Γ1 = r) (h3 : z = false → g Γ1 = r) : dIf t f g Γ = r := by
  unfold dIf; rw [h1, bind_val]
  cases z with
  | true => exact h2 rfl
  | false => exact h3 rfl
theorem a_nil : dA0 Γ = .val ([], Γ) := rfl
theorem a_cons (h1 : f Γ = .val (a, Γ1)) (h2 : k Γ1 = .val (as, Γ2)) : dAc f k Γ = .val (a :: as, Γ2) := by unfold dAc; rw [h1, bind_val, h2]; rfl
theorem e_frz (h1 : f Γ = .val (.d true d, Γ1)) : dFrz f Γ = .val (.d true d, Γ1) := by unfold dFrz; rw [h1]; rfl
theorem e_frzF (h1 : f Γ = .val (.d false d, Γ1)) : dFrz f Γ = .val (.d (flat d) d, Γ1) := by unfold dFrz; rw [h1]; rfl
theorem e_frzD (h1 : f Γ = .val (.d fr d, Γ1)) : dFrz f Γ = .val (.d (fr || flat d) d, Γ1) := by
  cases fr with
  | true => exact e_frz h1
  | false => rw [Bool.false_or]; exact e_frzF h1
theorem e_frzO {m : Nat} (h1 : f Γ = .val (.s m, Γ1)) (h2 : Γ1[m]? = some (.own (.lst ds))) : dFrz f Γ = .val (.d true (.list ds), Γ1.set m (.dat true (.list ds))) := by
  unfold dFrz; rw [h1, bind_val]; simp only [frzA, h2]
theorem n_lst (h1 : k Γ = .val (as, Γ1)) (h2 : allT as = some ds) (h3 : szB as = true) : dLst k Γ = .val (ds, Γ1) := by
  unfold dLst; rw [h1, bind_val]; simp only [h2]; exact gq_of _ h3
theorem e_tup (h1 : k Γ = .val (as, Γ1)) (h2 : allF as = some (ds, fr)) (h3 : szB as = true) : dTup k Γ = .val (.d fr (.tuple ds), Γ1) := by
  unfold dTup; rw [h1, bind_val]; simp only [h2]; exact gq_of _ h3
theorem e_ofN (h1 : n Γ = .val (ds, Γ1)) : dOfN n Γ = .val (.d true (.list ds), Γ1) := by unfold dOfN; rw [h1]; rfl
theorem c_l (h1 : n Γ = .val (ds, Γ1)) : nL n Γ = .val (.lst ds, Γ1) := by unfold nL; rw [h1]; rfl
theorem x_c {cl : Cl} (h1 : c Γ = .val (cl, Γ1)) : xC c Γ = .val (.c cl, Γ1) := by unfold xC; rw [h1]; rfl
theorem x_e (h1 : f Γ = .val (.d true d, Γ1)) : xE f Γ = .val (.d d, Γ1) := by unfold xE; rw [h1]; rfl
theorem e_xd {x : DX} (h1 : x Γ = .val (.d d, Γ1)) : eX x Γ = .val (.d true d, Γ1) := by unfold eX; rw [h1]; rfl
theorem e_xc {x : DX} (h1 : x Γ = .val (.c (.lst ds), Γ1)) : eX x Γ = .val (.d true (.list ds), Γ1) := by unfold eX; rw [h1]; rfl
theorem e_ixL (h1 : f Γ = .val (.d fr (.list ds), Γ1)) (h2 : g Γ1 = .val (.d fr2 (.int i), Γ2)) (h3 : atI ds i = some d) : dIxB f g Γ = .val (.d fr d, Γ2) := by
  unfold dIxB; rw [h1, bind_val, h2, bind_val]; unfold ixB dicA ixA; simp only [h3]; rfl
theorem e_ixT (h1 : f Γ = .val (.d fr (.tuple ds), Γ1)) (h2 : g Γ1 = .val (.d fr2 (.int i), Γ2)) (h3 : atI ds i = some d) : dIxB f g Γ = .val (.d fr d, Γ2) := by
  unfold dIxB; rw [h1, bind_val, h2, bind_val]; unfold ixB dicA ixA; simp only [h3]; rfl
theorem e_ixS {m : Nat} (h1 : f Γ = .val (.s m, Γ1)) (h2 : g Γ1 = .val (.d fr2 (.int i), Γ2)) (h4 : rdD Γ2 (.s m) = some (.list ds)) (h3 : atI ds i = some d) : dIxB f g Γ = .val (.d true d, Γ2) := by
  unfold dIxB; rw [h1, bind_val, h2, bind_val]
  have e : dicA Γ2 (.s m) = none := by
    unfold rdD at h4
    unfold dicA
    simp only at h4 ⊢
    split at h4 <;> simp_all
  show (ixB Γ2 (.s m) (.d fr2 (.int i))).bind _ = _
  unfold ixB
  rw [e]
  simp only [ixA, h4, h3]
  rfl
theorem e_B {q : List Sl → List AV → R AV} (h1 : k Γ = .val (as, Γ1)) (h2 : q Γ1 as = .val a) : dB q k Γ = .val (a, Γ1) := by unfold dB; rw [h1, bind_val, h2]; rfl
theorem n_B {q : List Sl → List AV → R (List PyData)} (h1 : k Γ = .val (as, Γ1)) (h2 : q Γ1 as = .val ds) : dBN q k Γ = .val (ds, Γ1) := by unfold dBN; rw [h1, bind_val, h2]; rfl
theorem k_lenL (h : rdD Γ a = some (.list ds)) : kLen Γ [a] = .val (.d true (.int (ds.length : Nat))) := by unfold kLen; simp only [h]
theorem k_lenT (h : rdD Γ a = some (.tuple ds)) : kLen Γ [a] = .val (.d true (.int (ds.length : Nat))) := by unfold kLen; simp only [h]
theorem x_call {m : List Ar → R (Rs × List Sl)} {dds : List PyData} {r : Rs} {Z : List Sl} (h1 : k Γ = .val (as, Γ1)) (h2 : rdDs Γ1 none as = some ds) (h3 : m ((ds ++ dds).map Ar.d) = .val (r, Z)) : xCall m dds k Γ = .val (r, Γ1) := by
  unfold xCall; rw [h1, bind_val, h2, ofO_some, bind_val, h3]; rfl
theorem x_callC {m : List Ar → R (Rs × List Sl)} {dds : List PyData} {r : Rs} {Z : List Sl} {p q : Nat} {ic : Bool × Cl} {cl : Cl} (h1 : k Γ = .val (as, Γ1)) (h2 : pickC p as = some q) (h3 : cellAt Γ1 q = some ic) (h4 : rdDs Γ1 (some q) (as.eraseIdx p) = some ds) (h5 : ic.2.fl = true) (h6 : m (insC p ic.2 (ds ++ dds)) = .val (r, Z)) (h7 : ioAt p Z = some cl) :
    xCallC m p dds k Γ = .val (r, Γ1.set q (mkS ic.1 cl)) := by
  unfold xCallC; rw [h1, bind_val]; unfold preC; rw [h2, ofO_some, bind_val, h3, ofO_some, bind_val, h4, ofO_some, bind_val, h5]
  show ((m (insC p ic.2 (ds ++ dds))).atC p Γ1 q ic.1).bind _ = _
  rw [h6]
  show ((R.ofO (ioAt p Z)).bind _).bind _ = _
  rw [h7]
  rfl
theorem x_callK {m : List Ar → R (Rs × List Sl)} {dds : List PyData} {r : Rs} {Z : List Sl} {p q : Nat} {k2 : DA} {bs : List AV} (h1 : k Γ = .val (as, Γ1)) (h2 : k2 Γ1 = .val (bs, Γ2)) (l1 : as.length = p) (l2 : bs.length = q) (h3 : rdDs Γ2 none (as ++ bs) = some ds) (h4 : m ((ds ++ dds).map Ar.d) = .val (r, Z)) : xCallK m p q dds k k2 Γ = .val (r, Γ2) := by
  unfold xCallK; rw [h1, bind_val, h2, bind_val]; simp only [l1, l2, decide_true, Bool.and_true]
  rw [req_true, bind_val, h3, ofO_some, bind_val, h4]; rfl
theorem i_seqL (h1 : f Γ = .val (.d fr (.list ds), Γ1)) : iSeq f Γ = .val ((ds, fr), Γ1) := by unfold iSeq; rw [h1]; rfl
theorem i_seqT (h1 : f Γ = .val (.d fr (.tuple ds), Γ1)) : iSeq f Γ = .val ((ds, fr), Γ1) := by unfold iSeq; rw [h1]; rfl
theorem i_enumL (h1 : f Γ = .val (.d fr (.list ds), Γ1)) : iEnum f Γ = .val ((enumD ds, fr), Γ1) := by unfold iEnum; rw [h1]; rfl
theorem i_enumT (h1 : f Γ = .val (.d fr (.tuple ds), Γ1)) : iEnum f Γ = .val ((enumD ds, fr), Γ1) := by unfold iEnum; rw [h1]; rfl
theorem i_range1 (h1 : f Γ = .val (.d fr (.int j), Γ1)) (h2 : cRng 0 j = true) : iRange1 f Γ = .val (((rng 0 j).map PyData.int, true), Γ1) := by unfold iRange1; rw [h1, bind_val]; exact gq_of _ h2
theorem i_range2 (h1 : f Γ = .val (.d fr (.int i), Γ1)) (h3 : g Γ1 = .val (.d fr2 (.int j), Γ2)) (h2 : cRng i j = true) : iRange2 f g Γ = .val (((rng i j).map PyData.int, true), Γ2) := by unfold iRange2; rw [h1, bind_val, h3, bind_val]; exact gq_of _ h2
theorem n_lrng1 (h1 : f Γ = .val (.d fr (.int j), Γ1)) (h2 : cLrg 0 j = true) : dLrng1 f Γ = .val ((rng 0 j).map PyData.int, Γ1) := by unfold dLrng1; rw [h1, bind_val]; exact gq_of _ h2
theorem n_lrng2 (h1 : f Γ = .val (.d fr (.int i), Γ1)) (h3 : g Γ1 = .val (.d fr2 (.int j), Γ2)) (h2 : cLrg i j = true) : dLrng2 f g Γ = .val ((rng i j).map PyData.int, Γ2) := by unfold dLrng2; rw [h1, bind_val, h3, bind_val]; exact gq_of _ h2
theorem n_cat (h1 : f Γ = .val (a, Γ1)) (h2 : g Γ1 = .val (b, Γ2)) (h3 : lsA Γ2 a = some ds) (h4 : lsA Γ2 b = some es) (h5 : szB (ds ++ es) = true) : dCat f g Γ = .val (ds ++ es, Γ2) := by
  unfold dCat; rw [h1, bind_val, h2, bind_val, h3, ofO_some, bind_val, h4, ofO_some, bind_val]; exact gq_of _ h5
theorem n_rev (h1 : f Γ = .val (a, Γ1)) (h3 : lsA Γ1 a = some ds) : dRev f Γ = .val (ds.reverse, Γ1) := by unfold dRev; rw [h1, bind_val, h3]; rfl
theorem n_sset {ns : List Int} {b0 : Bool} (h1 : f Γ = .val (a, Γ1)) (h2 : rdSeq Γ1 a = some (ns.map PyData.int, b0)) (h3 : lt64 ns = true) (h4 : intsOf (ns.map PyData.int) = some ns) : dSset f Γ = .val ((setI ns).map PyData.int, Γ1) := by
  unfold dSset; rw [h1, bind_val]; unfold kSset; rw [h2]; simp only [h4]; rw [ofO_some, bind_val, h3]; rfl
theorem e_isi {ts : List Tn} (h1 : f Γ = .val (a, Γ1)) (h2 : rdD Γ1 a = some d) (h3 : noDct d = true) : dIsi ts f Γ = .val (.d true (.bool (ts.any fun t => tyIs d t)), Γ1) := by
  unfold dIsi; rw [h1, bind_val]; simp only [h2]; exact gq_of _ h3
theorem e_app {m : Nat} {io : Bool} (h0 : cellL Γ m = some (io, es)) (h1 : f Γ = .val (.d true d, Γ1)) (h2 : cellL Γ1 m = some (io, ds)) (h3 : ltS ds = true) : dLm m qAppend (dAc (dFrz f) dA0) Γ = .val (.d true .none, Γ1.set m (mkS io (.lst (ds ++ [d])))) := by
  unfold dLm
  rw [h0, ofO_some, bind_val, a_cons (e_frz h1) a_nil, bind_val, h2, ofO_some, bind_val]
  show ((qAppend ds [.d true d]).bind _) = _
  unfold qAppend
  simp only [h3]
  rfl
end
/-! ## statements -/
def W (b : DS) (Γ : List Sl) (P : Fw → List Sl → Prop) : Prop := Ok (b Γ) fun z => P z.1 z.2
section
variable {Γ Γ1 Γ2 : List Sl} {f g : DF} {b r r2 : DS} {x : DX} {n : DC} {t : DT} {fr z : Bool} {d : PyData} {P : Fw → List Sl → Prop} {m : Nat}
theorem w_nil (h : P .nx Γ) : W bNil Γ P := ok_val h
theorem w_seq (h : W b Γ fun w Γ1 => match w with
    | .nx => W r Γ1 P
    | w => P w Γ1) : W (bSeq b r) Γ P := by
  unfold W bSeq
  refine ok_bind h fun z hz => ?_
  obtain ⟨w, Γ1⟩ := z
  cases w with
  | nx => exact hz
  | bk => exact ok_val hz
  | ct => exact ok_val hz
  | rt r => exact ok_val hz
theorem w_one (h : ∃ Γ1, b Γ = .val (.nx, Γ1) ∧ W r Γ1 P) : W (bSeq b r) Γ P := by
  obtain ⟨Γ1, e, h⟩ := h
  exact w_seq ⟨(.nx, Γ1), e, h⟩
theorem w_set (h1 : f Γ = .val (.d fr d, Γ1)) (h : W r (Γ1.set m (.dat fr d)) P) : W (bSeq (bSet m f) r) Γ P := w_one ⟨_, by unfold bSet; rw [h1]; rfl, h⟩
theorem w_setC {c : Cl} (h1 : n Γ = .val (c, Γ1)) (h : W r (Γ1.set m (.own c)) P) : W (bSeq (bSetC m n) r) Γ P := w_one ⟨_, by unfold bSetC; rw [h1]; rfl, h⟩
theorem w_setX {s : Rs} (h1 : x Γ = .val (s, Γ1)) (h : W r (Γ1.set m (rsS s)) P) : W (bSeq (bSetX m x) r) Γ P := w_one ⟨_, by unfold bSetX; rw [h1]; rfl, h⟩
theorem w_setG {gg : DG} (h1 : f Γ = .val (.d fr d, Γ1)) (h2 : gg fr d Γ1 = some Γ2) (h : W r Γ2 P) : W (bSeq (bSetG gg f) r) Γ P := w_one ⟨_, by unfold bSetG; rw [h1, bind_val]; simp only; rw [h2]; rfl, h⟩
theorem w_expr {a : AV} (h1 : f Γ = .val (a, Γ1)) (h : W r Γ1 P) : W (bSeq (bExpr f) r) Γ P := w_one ⟨_, by unfold bExpr; rw [h1]; rfl, h⟩
theorem w_exprX {s : Rs} {e : PyData} (h1 : x Γ = .val (s, Γ1)) (h2 : rsF s = some e) (h : W r Γ1 P) : W (bSeq (bExprX x) r) Γ P := w_one ⟨_, by unfold bExprX; rw [h1, bind_val, h2]; rfl, h⟩
theorem w_ret (h1 : f Γ = .val (.d true d, Γ1)) (h : P (.rt (.d d)) Γ1) : W (bSeq (bRet f) r) Γ P := w_seq ⟨(.rt (.d d), Γ1), by unfold bRet; rw [h1]; rfl, h⟩
theorem w_ret0 (h : P (.rt (.d .none)) Γ) : W (bSeq bRet0 r) Γ P := w_seq ⟨(.rt (.d .none), Γ), rfl, h⟩
theorem w_retC {c : Cl} (h1 : n Γ = .val (c, Γ1)) (h : P (.rt (.c c)) Γ1) : W (bSeq (bRetC n) r) Γ P := w_seq ⟨(.rt (.c c), Γ1), by unfold bRetC; rw [h1]; rfl, h⟩
theorem w_retX {s : Rs} (h1 : x Γ = .val (s, Γ1)) (h : P (.rt s) Γ1) : W (bSeq (bRetX x) r) Γ P := w_seq ⟨(.rt s, Γ1), by unfold bRetX; rw [h1]; rfl, h⟩
theorem w_retO {c : Cl} (h1 : Γ[m]? = some (.own c)) (h : P (.rt (.c c)) (Γ.set m .un)) : W (bSeq (bRetO m) r) Γ P := w_seq ⟨(.rt (.c c), Γ.set m .un), by unfold bRetO; rw [h1], h⟩
theorem w_if {c2 : DS} (h1 : t Γ = .val (z, Γ1)) (hT : z = true → W (bSeq b r) Γ1 P) (hF : z = false → W (bSeq c2 r) Γ1 P) : W (bSeq (bIf t b c2) r) Γ P := by
  have e : bSeq (bIf t b c2) r Γ = if z then bSeq b r Γ1 else bSeq c2 r Γ1 := by
    unfold bSeq bIf
    rw [h1, bind_val]
    cases z <;> rfl
  unfold W
  rw [e]
  cases z with
  | true => exact hT rfl
  | false => exact hF rfl
theorem w_seqA (h : W (bSeq b (bSeq r r2)) Γ P) : W (bSeq (bSeq b r) r2) Γ P := by
  have e : bSeq (bSeq b r) r2 Γ = bSeq b (bSeq r r2) Γ := by
    unfold bSeq
    rw [R.bind_assoc]
    congr 1
    funext z
    obtain ⟨w, Γ1⟩ := z
    cases w <;> rfl
  unfold W
  rw [e]
  exact h
theorem w_seqN (h : W r Γ P) : W (bSeq bNil r) Γ P := h
theorem w_frz {c : Cl} (h1 : Γ[m]? = some (.own c)) (h2 : frzC c = some d) (h : W r (Γ.set m (.dat true d)) P) : W (bFrz m r) Γ P := by
  unfold W bFrz
  simp only [h1, h2]
  exact h
theorem w_frzN {fr : Bool} (h1 : Γ[m]? = some (.dat fr d)) (h : W r Γ P) : W (bFrz m r) Γ P := by
  unfold W bFrz
  simp only [h1]
  exact h
theorem w_inc {i j : Int} {fr2 : Bool} (h0 : Γ[m]? = some (.dat fr (.int i))) (h1 : f Γ = .val (.d fr2 (.int j), Γ1)) (h : W r (Γ1.set m (.dat true (.int (i + j)))) P) : W (bSeq (bInc m f) r) Γ P := w_one ⟨_, by unfold bInc; rw [h0]; simp only [intS]; rw [ofO_some, bind_val, h1]; rfl, h⟩
theorem w_for {is : List Nat} {gg : DG} {it : DI} {y : List PyData × Bool} (Inv : Nat → List Sl → Prop) (h1 : it Γ = .val (y, Γ1)) (h0 : Inv 0 (wipeG Γ1 is))
    (hb : ∀ i d Γ, y.1[i]? = some d → Inv i Γ → ∃ Γ1, gg y.2 d Γ = some Γ1 ∧ W b Γ1 fun w Γ2 => match w with
      | .nx => Inv (i + 1) (wipeG Γ2 is)
      | .ct => Inv (i + 1) (wipeG Γ2 is)
      | .bk => W r (wipeG Γ2 is) P
      | .rt s => P (.rt s) Γ2) (hd : ∀ Γ, Inv y.1.length Γ → W r Γ P) : W (bSeq (bFor is gg it b) r) Γ P := by
  refine w_seq ?_
  unfold W bFor
  rw [h1, bind_val]
  exact ok_loopU (Post := fun z => match z.1 with
    | .nx => W r z.2 P
    | w => P w z.2) Inv y.1 h0 (fun i d Γ hd hi => by
      obtain ⟨Γ1, e1, o⟩ := hb i d Γ hd hi
      exact ⟨Γ1, e1, o.mono fun z hz => by
        obtain ⟨w, Γ2⟩ := z
        cases w <;> exact hz⟩) hd
theorem w_while {is : List Nat} {fl : List Sl → Nat} (Inv : Nat → List Sl → Prop) (k : Nat) (hk : k < fl Γ) (h0 : Inv k (wipeG Γ is))
    (hb : ∀ n Γ, Inv n Γ → ∃ z Γ1, t Γ = .val (z, Γ1) ∧ (z = true → W b Γ1 fun w Γ2 => match w with
      | .nx => ∃ m, m < n ∧ Inv m (wipeG Γ2 is)
      | .ct => ∃ m, m < n ∧ Inv m (wipeG Γ2 is)
      | .bk => W r (wipeG Γ2 is) P
      | .rt s => P (.rt s) Γ2) ∧ (z = false → W r Γ1 P)) : W (bSeq (bWhile is fl t b) r) Γ P := by
  refine w_seq ?_
  unfold W bWhile
  refine ok_loopW (Post := fun z => match z.1 with
    | .nx => W r z.2 P
    | w => P w z.2) Inv (fun n Γ hi => ?_) (fl Γ) k Γ hk h0
  obtain ⟨z, Γ1, e, hT, hF⟩ := hb n Γ hi
  refine ⟨(z, Γ1), e, ?_⟩
  cases z with
  | true =>
    show Ok _ _
    exact (hT rfl).mono fun y hy => by
      obtain ⟨w, Γ2⟩ := y
      cases w <;> exact hy
  | false => exact hF rfl
end
/-- a def -/
theorem ok_run {n np : Nat} {b : DS} {as : List Ar} {Q : Rs × List Sl → Prop} (hl : as.length = np) (h : W b (initS n as) fun w Γ => ∃ r Z, fwR w = some r ∧ cellsAt as Γ = some Z ∧ Q (r, Z)) : Ok (runB n np b as) Q := by
  unfold runB
  have : (as.length == np) = true := by rw [hl]; exact beq_self_eq_true _
  rw [this, req_true, bind_val]
  obtain ⟨z, e, r, Z, h1, h2, h3⟩ := h
  rw [e]
  show Ok ((R.ofO (fwR z.1)).bind _) Q
  rw [h1, ofO_some, bind_val, h2]
  exact ok_val h3
/-! values step by step -/
local macro_rules
  | `(tactic| bv_omega) => `(tactic| with_reducible first
  | exact e_C | exact a_nil | exact k_sub | exact k_and | exact k_or | exact k_eqI | exact k_neI | exact k_I
  | apply e_I | apply e_add | apply e_neg | apply e_cmp | apply t_tst | apply t_not | apply e_not
  | apply k_mul | apply k_div | apply k_mod | apply k_pow | apply k_shl | apply k_shr
  | apply a_cons | apply n_lst | apply e_tup | apply e_ofN | apply c_l | apply x_c | apply e_B | apply n_B | apply e_isi)
local macro_rules
  | `(tactic| symm_saturate) => `(tactic| repeat' first | bv_omega | exact e_var rfl | exact e_varO rfl | exact e_varI rfl | rfl | assumption)
end PD

section
open PySem L2 PD
local macro_rules
  | `(tactic| bv_omega) => `(tactic| with_reducible first
  | exact e_C | exact a_nil | exact k_sub | exact k_and | exact k_or | exact k_eqI | exact k_neI | exact k_I
  | apply e_I | apply e_add | apply e_neg | apply e_cmp | apply t_tst | apply t_not | apply e_not
  | apply k_mul | apply k_div | apply k_mod | apply k_pow | apply k_shl | apply k_shr
  | apply a_cons | apply n_lst | apply e_tup | apply e_ofN | apply c_l | apply x_c | apply e_B | apply n_B | apply e_isi)
local macro_rules
  | `(tactic| symm_saturate) => `(tactic| repeat' first | bv_omega | exact e_var rfl | exact e_varO rfl | exact e_varI rfl | rfl | assumption)

set_option linter.all false
set_option maxRecDepth 100000
set_option autoImplicit false
namespace PD
open PySem L2
section
variable {Γ Γ1 Γ2 : List Sl} {fe : DF} {r : DS} {m : Nat} {io fr : Bool} {f : Fd} {n : Int} {P : Fw → List Sl → Prop}
theorem e_fdT (h : cellF Γ m = some (io, f)) : dFdT m Γ = .val (.d true (.int f.2.1), Γ) := by unfold dFdT; rw [h]; rfl
theorem e_fdS (h : cellF Γ m = some (io, f)) : dFdS m Γ = .val (.d true (.int f.2.2), Γ) := by unfold dFdS; rw [h]; rfl
theorem e_fdN (h : cellF Γ m = some (io, f)) : dFdN m Γ = .val (.d true (.bool (!decide (f.1 = ([] : List Int)))), Γ) := by unfold dFdN; rw [h]; rfl
theorem e_fd0 (h : cellF Γ m = some (io, f)) (h2 : atI f.1 0 = some n) : dFd0 m Γ = .val (.d true (.int n), Γ) := by unfold dFd0; rw [h, ofO_some, bind_val, h2]; rfl
theorem w_fdT (h1 : fe Γ = .val (.d fr (.int n), Γ1)) (h2 : cellF Γ1 m = some (io, f)) (h : W r (Γ1.set m (mkS io (.feed (f.1, n, f.2.2)))) P) : W (bSeq (bFdT m fe) r) Γ P := w_one ⟨_, by unfold bFdT; rw [h1, bind_val]; show ((R.ofO (some n)).bind _) = _; rw [ofO_some, bind_val, h2]; rfl, h⟩
theorem w_fdS (h1 : fe Γ = .val (.d fr (.int n), Γ1)) (h2 : cellF Γ1 m = some (io, f)) (h : W r (Γ1.set m (mkS io (.feed (f.1, f.2.1, n)))) P) : W (bSeq (bFdS m fe) r) Γ P := w_one ⟨_, by unfold bFdS; rw [h1, bind_val]; show ((R.ofO (some n)).bind _) = _; rw [ofO_some, bind_val, h2]; rfl, h⟩
theorem w_fd0 (h1 : fe Γ = .val (.d fr (.int n), Γ1)) (h2 : cellF Γ1 m = some (io, f)) (h3 : f.1 ≠ []) (h : W r (Γ1.set m (mkS io (.feed (f.1.set 0 n, f.2)))) P) : W (bSeq (bFd0 m fe) r) Γ P := w_one ⟨_, by
  unfold bFd0; rw [h1, bind_val]; show ((R.ofO (some n)).bind _) = _; rw [ofO_some, bind_val, h2, ofO_some, bind_val]
  have : (!decide ((io, f).2.1 = ([] : List Int))) = true := by simpa using h3
  rw [this]; rfl, h⟩
theorem w_fdC (h2 : cellF Γ m = some (io, f)) (h : W r (Γ.set m (mkS io (.feed (f.1.drop 1, f.2)))) P) : W (bSeq (bFdC m) r) Γ P := w_one ⟨_, by unfold bFdC; rw [h2]; rfl, h⟩
end
theorem mod_64 {a M : Int} (h : 0 < M) (h2 : M < 2 ^ 64) : (a % M).natAbs < 2 ^ 64 := by
  have h3 := Int.emod_nonneg a (by omega : M ≠ 0)
  have h4 := Int.emod_lt_of_pos a h
  omega
theorem mulR {i j : Int} (h : j.natAbs < 2 ^ 64) : cMulX i j = true := by unfold cMulX; rw [decide_eq_true h]; simp
theorem mulL {i j : Int} (h : i.natAbs < 2 ^ 64) : cMulX i j = true := by unfold cMulX; rw [decide_eq_true h]; simp
theorem modP {i j : Int} (h : 0 < j) : cMod i j = true := decide_eq_true h
theorem log2_lt {n : Nat} (h : n < 2 ^ 64) : n.log2 < 9000 := by
  by_cases h0 : n = 0
  · subst h0; decide
  · have := (Nat.log2_lt h0 (k := 64)).mpr h
    omega
theorem divP {i j : Int} (h : 0 < j) (h2 : j < 2 ^ 64) : cDiv i j = true := by
  unfold cDiv
  rw [Bool.and_eq_true]
  exact ⟨decide_eq_true h, decide_eq_true (log2_lt (by omega))⟩
/-- the common taking from a feed -/
def feedTake : DS := (bSeq (bFdT 0 (dAdd (dFdT 0) (dC (.int 1)))) (bSeq (bIf (dTst (dFdN 0)) (bSeq (bSet 2 (dFrz (dFd0 0))) (bSeq (bIf (dTst (dCmp (kI fun i j => decide (j ≤ i)) (dVar 2) (dI kPow (dC (.int 10)) (dC (.int 18))))) (bSeq (bFd0 0 (dI kDiv (dVar 2) (dVar 1))) (bSeq (bRet (dI kMod (dVar 2) (dVar 1))) bNil)) bNil) (bSeq (bFdS 0 (dI kMod (dAdd (dAdd (dI kMul (dFdS 0) (dC (.int 30011))) (dI kMod (dVar 2) (dC (.int 999999937)))) (dC (.int 7))) (dC (.int 1000000007)))) (bSeq (bFdC 0) bNil)))) bNil) (bSeq (bSet 3 (dI kMod (dI kMul (dAdd (dAdd (dFdS 0) (dI kMul (dC (.int 40503)) (dFdT 0))) (dC (.int 9973))) (dC (.int 69069))) (dC (.int 2147483647)))) (bSeq (bSet 3 (dI kMod (dAdd (dAdd (dI kMul (dVar 3) (dVar 3)) (dI kMul (dC (.int 30269)) (dVar 3))) (dFdT 0)) (dC (.int 2147483629)))) (bSeq (bRet (dI kMod (dI kDiv (dVar 3) (dC (.int 64))) (dVar 1))) bNil)))))
theorem take_end (f : Fd) (n : Int) (hm : 0 < n) (s2 : Sl) (P : Fw → List Sl → Prop) (hP : ∀ r s3 s4, 0 ≤ r → r < n → P (.rt (.d (.int r))) [.io (.feed f), .dat true (.int n), s3, s4]) :
    W (bSeq (bSet 3 (dI kMod (dI kMul (dAdd (dAdd (dFdS 0) (dI kMul (dC (.int 40503)) (dFdT 0))) (dC (.int 9973))) (dC (.int 69069))) (dC (.int 2147483647)))) (bSeq (bSet 3 (dI kMod (dAdd (dAdd (dI kMul (dVar 3) (dVar 3)) (dI kMul (dC (.int 30269)) (dVar 3))) (dFdT 0)) (dC (.int 2147483629)))) (bSeq (bRet (dI kMod (dI kDiv (dVar 3) (dC (.int 64))) (dVar 1))) bNil))) [.io (.feed f), .dat true (.int n), s2, .un] P := by
  apply w_set
  · repeat' first | bv_omega | exact e_fdS rfl | exact e_fdT rfl | exact mulR (by decide) | exact mulL (by decide) | exact modP (by decide)
  apply w_set
  · repeat' first | bv_omega | exact e_fdT rfl | exact e_var rfl | exact mulL (by decide) | exact mulL (mod_64 (by decide) (by decide)) | exact modP (by decide)
  apply w_ret
  · repeat' first | bv_omega | exact e_var rfl | exact divP (by decide) (by decide) | exact modP hm
  exact hP _ _ _ (Int.emod_nonneg _ (by omega)) (Int.emod_lt_of_pos _ hm)
theorem feedTake_ok (f : Fd) (n : Int) (hm : 0 < n) (hn : n < 2 ^ 64) : Ok (runB 4 2 feedTake [.c (.feed f), .d (.int n)]) fun z => ∃ r f', z = (.d (.int r), [.io (.feed f'), .un]) ∧ 0 ≤ r ∧ r < n := by
  refine ok_run rfl ?_
  unfold feedTake
  apply w_fdT
  · repeat' first | bv_omega | exact e_fdT rfl
  · rfl
  apply w_if
  · repeat' first | bv_omega | exact e_fdN rfl
  · intro hz
    have hne : f.1 ≠ [] := by simpa using hz
    obtain ⟨x, xs, hx⟩ : ∃ x xs, f.1 = x :: xs := by
      cases h : f.1 with
      | nil => exact absurd h hne
      | cons a b => exact ⟨a, b, rfl⟩
    apply w_seqA
    apply w_set
    · apply e_frz
      apply e_fd0 rfl
      show atI f.1 0 = some x
      rw [hx]; exact atI_nat (j := 0) rfl
    apply w_seqA
    apply w_if
    · repeat' first | bv_omega | exact e_var rfl | exact rfl
    · intro _
      apply w_seqA
      apply w_fd0
      · repeat' first | bv_omega | exact e_var rfl | exact divP hm hn
      · rfl
      · exact hne
      apply w_seqA
      apply w_ret
      · repeat' first | bv_omega | exact e_var rfl | exact modP hm
      exact ⟨_, _, rfl, rfl, _, _, rfl, Int.emod_nonneg _ (by omega), Int.emod_lt_of_pos _ hm⟩
    · intro _
      apply w_seqN
      apply w_seqA
      apply w_fdS
      · repeat' first | bv_omega | exact e_var rfl | exact e_fdS rfl | exact mulR (by decide) | exact modP (by decide)
      · rfl
      apply w_seqA
      apply w_fdC
      · rfl
      apply w_seqN
      exact take_end _ n hm _ _ fun r s3 s4 h1 h2 => ⟨_, _, rfl, rfl, r, _, rfl, h1, h2⟩
  · intro _
    apply w_seqN
    exact take_end _ n hm _ _ fun r s3 s4 h1 h2 => ⟨_, _, rfl, rfl, r, _, rfl, h1, h2⟩
end PD


set_option linter.all false
set_option maxRecDepth 100000
set_option autoImplicit false
namespace PD
open PySem L2
abbrev dL (ns : List Int) : PyData := .list (ns.map PyData.int)
abbrev dT (ns : List Int) : PyData := .tuple (ns.map PyData.int)
abbrev dLL (rs : List (List Int)) : PyData := .list (rs.map fun r => dL r)
abbrev dTT (rs : List (List Int)) : PyData := .tuple (rs.map fun r => dT r)
theorem flatI : ∀ ns : List Int, flat.flatA (ns.map PyData.int) = true
  | [] => rfl
  | n :: ns => by simp [flat.flatA, flat, flatI ns]
theorem flat_dT (ns : List Int) : flat (dT ns) = true := by unfold flat; exact flatI ns
theorem flat_int (i : Int) : flat (.int i) = true := rfl
theorem gmap {α β : Type} {f : α → β} {xs : List α} {i : Nat} {d : β} (h : (xs.map f)[i]? = some d) : ∃ x, xs[i]? = some x ∧ d = f x := by
  rw [List.getElem?_map] at h
  cases hx : xs[i]? with
  | none => rw [hx] at h; cases h
  | some x => rw [hx] at h; cases h; exact ⟨x, rfl, rfl⟩
theorem mem_at {α : Type} {xs : List α} {i : Nat} {x : α} (h : xs[i]? = some x) : x ∈ xs := List.mem_of_getElem? h
theorem e_lset {Γ Γ1 : List Sl} {f : DF} {a : AV} {ns : List Int} (h1 : f Γ = .val (a, Γ1)) (h2 : rdInts Γ1 a = some ns) (h3 : ndI ns = true) : dLset f Γ = .val (.d true (.int (ns.length : Nat)), Γ1) := by
  unfold dLset; rw [h1, bind_val, h2, ofO_some, bind_val, h3]; rfl
theorem k_sorted {Γ : List Sl} {a : AV} {ns : List Int} (h : rdInts Γ a = some ns) : kSorted Γ [a] = .val ((sortI ns).map PyData.int) := by unfold kSorted; simp only [h]; rfl
theorem k_tup {Γ : List Sl} {a : AV} {ds : List PyData} {fr : Bool} (h : rdSeq Γ a = some (ds, fr)) : kTuple Γ [a] = .val (.d fr (.tuple ds)) := by unfold kTuple; simp only [h]; rfl
theorem k_list {Γ : List Sl} {a : AV} {ds : List PyData} {fr : Bool} (h : rdSeq Γ a = some (ds, fr)) (h2 : (fr || flat.flatA ds) = true) : kList Γ [a] = .val ds := by unfold kList; simp only [h]; exact gq_of _ h2
theorem ltS_of {α : Type} {xs : List α} (h : xs.length < 2 ^ 20) : ltS xs = true := by
  unfold ltS
  apply decide_eq_true
  have : (2 : Nat) ^ 20 ≤ sizeLine := by decide
  omega
theorem szB_of {α : Type} {xs : List α} (h : xs.length < 2 ^ 20) : szB xs = true := by
  unfold szB
  apply decide_eq_true
  have : (2 : Nat) ^ 20 ≤ sizeLine := by decide
  omega
/-! ## is_in -/
def bIsIn : DS := (bSeq (bRet (dCmp kEq (dI kAnd (dI kShr (dVar 0) (dVar 1)) (dC (.int 1))) (dC (.int 1)))) bNil)
theorem isIn_u (m k : Int) (hk : 0 ≤ k) : runB 2 2 bIsIn [.d (.int m), .d (.int k)] = .val (.d (.bool (decide (Builtin.bitAnd (m / 2 ^ k.toNat) 1 = 1))), [.un, .un]) := by
  have hk : cShr m k = true := decide_eq_true hk
  refine ok_eq (ok_run rfl ?_)
  unfold bIsIn
  apply w_ret
  · symm_saturate
  exact ⟨_, _, rfl, rfl, rfl⟩
/-! ## are_elders -/
def bAreElders : DS := (bSeq (bFor [2] (gN 2) (iSeq (dVar 0)) (bSeq (bIf (dTor (dTst (dCmp (kI fun i j => decide (i < j)) (dVar 2) (dC (.int 0)))) (dTst (dCmp (kI fun i j => decide (j ≤ i)) (dVar 2) (dVar 1)))) (bSeq (bRet (dC (.bool false))) bNil) bNil) bNil)) (bSeq (bRet (dCmp kEq (dLset (dVar 0)) (dB kLen (dAc (dVar 0) dA0)))) bNil))
theorem areElders_u (ns : List Int) (m : Int) (h : ∀ e ∈ ns, 0 ≤ e ∧ e < m) (hn : ns.Nodup) (hl : ns.length < 64) : runB 3 2 bAreElders [.d (dL ns), .d (.int m)] = .val (.d (.bool true), [.un, .un]) := by
  refine ok_eq (ok_run rfl ?_)
  unfold bAreElders
  refine w_for (y := (ns.map PyData.int, false)) (Γ1 := [.dat false (dL ns), .dat true (.int m), .un]) (fun _ Γ => Γ = [.dat false (dL ns), .dat true (.int m), .un]) ?_ rfl ?_ ?_
  · exact i_seqL (e_var rfl)
  · rintro i d Γ hd rfl
    obtain ⟨x, hx, rfl⟩ := gmap hd
    obtain ⟨q1, q2⟩ := h x (mem_at hx)
    refine ⟨_, rfl, ?_⟩
    apply w_if
    · apply t_or
      · symm_saturate
      · intro _
        symm_saturate
    · intro hz
      simp only [Bool.or_eq_true, decide_eq_true_eq] at hz
      omega
    · intro _
      exact w_nil rfl
  · rintro Γ rfl
    have hnd : ndI ns = true := by unfold ndI lt64; rw [decide_eq_true hl, decide_eq_true hn]; rfl
    apply w_ret
    · apply e_cmp
      · exact e_lset (e_var rfl) (intsOf_map ns) hnd
      · apply e_B
        · symm_saturate
        · exact k_lenL rfl
      · exact k_eqI
    refine ⟨_, _, rfl, rfl, ?_⟩
    rw [List.length_map, decide_eq_true rfl]
/-! ## net_of -/
def uAreElders : List Ar → R (Rs × List Sl) := runB 3 2 bAreElders
def bNetOf : DS := (bSeq (bIf (dTor (dTst (dCmp (kI fun i j => decide (i < j)) (dB kLen (dAc (dVar 0) dA0)) (dC (.int 1)))) (dTst (dCmp (kI fun i j => decide (j < i)) (dB kLen (dAc (dVar 0) dA0)) (dC (.int 40))))) (bSeq (bRaise "NoNet" ["make"] (dAc (dNeg (dC (.int 1))) dA0)) bNil) bNil) (bSeq (bSetX 1 (xC (nL (dLst dA0)))) (bSeq (bFor [2, 3] (gT2 (gN 2) (gN 3)) (iEnum (dVar 0)) (bSeq (bIf (dTnot (dTst (eX (xCall uAreElders [] (dAc (dVar 3) (dAc (dVar 2) dA0)))))) (bSeq (bRaise "NoNet" ["make"] (dAc (dFrz (dVar 2)) dA0)) bNil) bNil) (bSeq (bExpr (dLm 1 qAppend (dAc (dFrz (dB kTuple (dAc (dOfN (dBN kSorted (dAc (dVar 3) dA0))) dA0))) dA0))) bNil))) (bSeq (bRet (dB kTuple (dAc (dVar 1) dA0))) bNil))))
def RowsOk (rows : List (List Int)) : Prop := ∀ (k : Nat) (r : List Int), rows[k]? = some r → (∀ e ∈ r, 0 ≤ e ∧ e < (k : Int)) ∧ r.Nodup ∧ r.length < 64
def netR (rows : List (List Int)) : List (List Int) := rows.map sortI
theorem enumD_at {ds : List PyData} {i : Nat} {d : PyData} (h : (enumD ds)[i]? = some d) : ∃ x, ds[i]? = some x ∧ d = .tuple [.int (i : Nat), x] := by
  unfold enumD at h
  rw [List.getElem?_mapIdx] at h
  cases hx : ds[i]? with
  | none => rw [hx] at h; cases h
  | some x => rw [hx] at h; cases h; exact ⟨x, rfl, rfl⟩
theorem enumD_len (ds : List PyData) : (enumD ds).length = ds.length := by unfold enumD; simp
theorem take_step {α : Type} {xs : List α} {i : Nat} {x : α} (h : xs[i]? = some x) : xs.take (i + 1) = xs.take i ++ [x] := by
  rw [List.take_add_one, h]; rfl
theorem netOf_u (rows : List (List Int)) (h : RowsOk rows) (h1 : 1 ≤ rows.length) (h2 : rows.length ≤ 40) : runB 4 1 bNetOf [.d (dLL rows)] = .val (.d (dTT (netR rows)), [.un]) := by
  refine ok_eq (ok_run rfl ?_)
  unfold bNetOf
  apply w_if
  · apply t_or
    · apply t_tst
      apply e_cmp
      · apply e_B
        · symm_saturate
        · exact k_lenL rfl
      · exact e_C
      · exact k_I
    · intro _
      apply t_tst
      apply e_cmp
      · apply e_B
        · symm_saturate
        · exact k_lenL rfl
      · exact e_C
      · exact k_I
  · intro hz
    simp only [Bool.or_eq_true, decide_eq_true_eq, List.length_map] at hz
    omega
  intro _
  apply w_seqN
  apply w_setX
  · exact x_c (c_l (n_lst a_nil rfl rfl))
  refine w_for (y := (enumD (rows.map fun r => dL r), false)) (Γ1 := [.dat false (dLL rows), .own (.lst []), .un, .un]) (fun i Γ => Γ = [.dat false (dLL rows), .own (.lst (((netR rows).take i).map dT)), .un, .un]) ?_ rfl ?_ ?_
  · exact i_enumL (e_var rfl)
  · rintro i d Γ hd rfl
    obtain ⟨x, hx, rfl⟩ := enumD_at hd
    obtain ⟨r, hr, rfl⟩ := gmap hx
    obtain ⟨q1, q2, q3⟩ := h i r hr
    refine ⟨_, rfl, ?_⟩
    apply w_if
    · apply t_not
      apply t_tst
      apply e_xd
      apply x_call
      · symm_saturate
      · rfl
      · exact areElders_u r (i : Int) q1 q2 q3
    · intro hz; cases hz
    intro _
    apply w_seqN
    apply w_expr
    · apply e_app
      · rfl
      · apply e_B
        · apply a_cons
          · apply e_ofN
            apply n_B
            · symm_saturate
            · exact k_sorted (intsOf_map r)
          · exact a_nil
        · exact k_tup rfl
      · rfl
      · apply ltS_of
        rw [List.length_map, List.length_take]
        unfold netR
        rw [List.length_map]
        omega
    refine w_nil ?_
    have e : (netR rows)[i]? = some (sortI r) := by unfold netR; rw [List.getElem?_map, hr]; rfl
    show _ = _
    rw [take_step e, List.map_append]
    rfl
  · rintro Γ hΓ
    have hl : (enumD (rows.map fun r => dL r)).length = (netR rows).length := by rw [enumD_len]; unfold netR; simp
    have hΓ : Γ = [.dat false (dLL rows), .own (.lst ((netR rows).map dT)), .un, .un] := by
      rw [hΓ]
      show [Sl.dat false (dLL rows), .own (.lst (((netR rows).take (enumD (rows.map fun r => dL r)).length).map dT)), .un, .un] = _
      rw [hl, List.take_length]
    subst hΓ
    apply w_ret
    · apply e_B
      · symm_saturate
      · exact k_tup rfl
    exact ⟨_, _, rfl, rfl, rfl⟩
end PD


set_option linter.all false
set_option maxRecDepth 100000
set_option autoImplicit false
namespace PD
open PySem L2
theorem band_pos {x y : Int} (hx : 0 ≤ x) (hy : 0 ≤ y) : Builtin.bitAnd x y = ((x.toNat &&& y.toNat : Nat) : Int) := by
  unfold Builtin.bitAnd
  rw [decide_eq_true hx, decide_eq_true hy]
theorem bor_pos {x y : Int} (hx : 0 ≤ x) (hy : 0 ≤ y) : Builtin.bitOr x y = ((x.toNat ||| y.toNat : Nat) : Int) := bitOr_nn hx hy
/-- a mask of k places, its places those of S -/
structure Msk (k : Nat) (m : Int) (S : Nat → Prop) : Prop where
  nn : 0 ≤ m
  lt : m.toNat < 2 ^ k
  bit : ∀ j, m.toNat.testBit j = true ↔ S j
theorem Msk.iff {k : Nat} {m : Int} {S T : Nat → Prop} (h : Msk k m S) (e : ∀ j, S j ↔ T j) : Msk k m T := ⟨h.nn, h.lt, fun j => (h.bit j).trans (e j)⟩
theorem Msk.lt_of {k : Nat} {m : Int} {S : Nat → Prop} (h : Msk k m S) {j : Nat} (hj : S j) : j < k := by
  have hb := (h.bit j).mpr hj
  refine Nat.lt_of_not_le fun z => ?_
  have : m.toNat < 2 ^ j := Nat.lt_of_lt_of_le h.lt (Nat.pow_le_pow_right (by decide) z)
  rw [Nat.testBit_lt_two_pow this] at hb
  cases hb
theorem msk_zero (k : Nat) : Msk k 0 (fun _ => False) := ⟨by decide, by simp; exact Nat.two_pow_pos k, fun j => by simp⟩
theorem msk_one {k j : Nat} (h : j < k) : Msk k ((1 : Int) * 2 ^ j) (fun i => i = j) := by
  have e : ((1 : Int) * 2 ^ j) = ((2 ^ j : Nat) : Int) := by rw [Int.one_mul]; simp
  rw [e]
  refine ⟨Int.natCast_nonneg _, by rw [Int.toNat_natCast]; exact Nat.pow_lt_pow_right (by decide) h, fun i => ?_⟩
  rw [Int.toNat_natCast, Nat.testBit_two_pow]
  simp only [decide_eq_true_eq]
  exact eq_comm
theorem msk_or {k : Nat} {a b : Int} {S T : Nat → Prop} (ha : Msk k a S) (hb : Msk k b T) : Msk k (Builtin.bitOr a b) (fun j => S j ∨ T j) := by
  rw [bor_pos ha.nn hb.nn]
  refine ⟨Int.natCast_nonneg _, by rw [Int.toNat_natCast]; exact Nat.or_lt_two_pow ha.lt hb.lt, fun j => ?_⟩
  rw [Int.toNat_natCast, Nat.testBit_or, Bool.or_eq_true, ha.bit, hb.bit]
theorem msk_and {k k' : Nat} {a b : Int} {S T : Nat → Prop} (ha : Msk k a S) (hb : Msk k' b T) : Msk k (Builtin.bitAnd a b) (fun j => S j ∧ T j) := by
  rw [band_pos ha.nn hb.nn]
  refine ⟨Int.natCast_nonneg _, ?_, fun j => ?_⟩
  · rw [Int.toNat_natCast]
    exact Nat.lt_of_le_of_lt Nat.and_le_left ha.lt
  rw [Int.toNat_natCast, Nat.testBit_and, Bool.and_eq_true, ha.bit, hb.bit]
theorem nat_add_or : ∀ (n a b : Nat), a < n → a &&& b = 0 → a + b = a ||| b
  | 0, a, b, h, _ => absurd h (by omega)
  | n + 1, a, b, h, z => by
    by_cases ha : a = 0
    · subst ha; simp
    · have z2 : a / 2 &&& b / 2 = 0 := by
        apply Nat.eq_of_testBit_eq
        intro i
        rw [Nat.testBit_and, ← Nat.testBit_succ, ← Nat.testBit_succ, ← Nat.testBit_and, z]
        simp
      have ih := nat_add_or n (a / 2) (b / 2) (by omega) z2
      have z0 : ¬ (a % 2 = 1 ∧ b % 2 = 1) := fun ⟨h1, h2⟩ => by
        have := congrArg (fun x => x.testBit 0) z
        simp [Nat.testBit_and, Nat.testBit_zero, h1, h2] at this
      have o2 : (a ||| b) / 2 = a / 2 ||| b / 2 := by
        apply Nat.eq_of_testBit_eq
        intro i
        simp [Nat.testBit_or, Nat.testBit_div_two]
      have o0 : (a ||| b) % 2 = (if a % 2 = 1 ∨ b % 2 = 1 then 1 else 0) := by
        have t : (a ||| b).testBit 0 = (a.testBit 0 || b.testBit 0) := Nat.testBit_or a b 0
        simp only [Nat.testBit_zero] at t
        rcases Nat.mod_two_eq_zero_or_one (a ||| b) with q | q <;> by_cases hx : a % 2 = 1 <;> by_cases hy : b % 2 = 1 <;> simp [hx, hy, q] at t ⊢
      have h1 : a % 2 < 2 := Nat.mod_lt _ (by decide)
      have h2 : b % 2 < 2 := Nat.mod_lt _ (by decide)
      have e1 := Nat.div_add_mod a 2
      have e2 := Nat.div_add_mod b 2
      have e3 := Nat.div_add_mod (a ||| b) 2
      rw [o2, ← ih, o0] at e3
      split at e3 <;> omega
theorem msk_ext {k k' : Nat} {a b : Int} {S : Nat → Prop} (ha : Msk k a S) (hb : Msk k' b S) : a = b := by
  have h1 := ha.nn
  have h2 := hb.nn
  have : a.toNat = b.toNat := Nat.eq_of_testBit_eq fun i => by
    cases h : a.toNat.testBit i with
    | true => exact ((hb.bit i).mpr ((ha.bit i).mp h)).symm
    | false =>
      cases h' : b.toNat.testBit i with
      | true => rw [(ha.bit i).mpr ((hb.bit i).mp h')] at h; cases h
      | false => rfl
  omega
/-- what is left of a mask -/
theorem msk_sub {k : Nat} {a b : Int} {S T : Nat → Prop} (ha : Msk k a S) (hb : Msk k b T) (h : ∀ j, T j → S j) : Msk k (a - b) (fun j => S j ∧ ¬ T j) := by
  classical
  have e : (a.toNat ^^^ b.toNat) &&& b.toNat = 0 := by
    apply Nat.eq_of_testBit_eq
    intro i
    rw [Nat.testBit_and, Nat.testBit_xor]
    cases h1 : b.toNat.testBit i with
    | false => simp
    | true => rw [(ha.bit i).mpr (h i ((hb.bit i).mp h1))]; simp
  have e2 : (a.toNat ^^^ b.toNat) + b.toNat = a.toNat := by
    rw [nat_add_or _ _ _ (Nat.lt_succ_self _) e]
    apply Nat.eq_of_testBit_eq
    intro i
    rw [Nat.testBit_or, Nat.testBit_xor]
    cases h1 : b.toNat.testBit i with
    | false => simp
    | true => rw [(ha.bit i).mpr (h i ((hb.bit i).mp h1))]; simp
  have h1 := ha.nn
  have h2 := hb.nn
  have e3 : (a - b).toNat = a.toNat ^^^ b.toNat := by omega
  refine ⟨by omega, ?_, fun j => ?_⟩
  · rw [e3]
    have := ha.lt
    omega
  · rw [e3, Nat.testBit_xor]
    have x1 := ha.bit j
    have x2 := hb.bit j
    cases h3 : a.toNat.testBit j <;> cases h4 : b.toNat.testBit j <;> simp [h3, h4] at x1 x2 ⊢ <;> first | exact fun z => absurd z x1 | exact absurd (h j x2) x1 | exact ⟨x1, x2⟩ | exact fun _ => x2
theorem msk_none {k : Nat} {a : Int} {S : Nat → Prop} (ha : Msk k a S) : a = 0 ↔ ∀ j, ¬ S j := by
  constructor
  · rintro rfl j hj
    have := (ha.bit j).mpr hj
    simp at this
  · intro h
    exact msk_ext (ha.iff fun j => ⟨fun z => h j z, False.elim⟩) (msk_zero k)
/-! the places of a mask, rising -/
def bitsFrom (a : Nat) : Nat → Nat → List Int
  | 0, _ => []
  | n + 1, x => if x = 0 then [] else (if x % 2 = 1 then [(a : Int)] else []) ++ bitsFrom (a + 1) n (x / 2)
theorem bitsFrom_mem {y : Int} : ∀ {n a x : Nat}, x < n → (y ∈ bitsFrom a n x ↔ ∃ j : Nat, x.testBit j = true ∧ y = (a + j : Nat))
  | 0, _, _, h => absurd h (by omega)
  | n + 1, a, x, h => by
    unfold bitsFrom
    by_cases hx : x = 0
    · subst hx; simp
    · rw [if_neg hx, List.mem_append, bitsFrom_mem (n := n) (a := a + 1) (x := x / 2) (by omega)]
      constructor
      · rintro (z | ⟨j, h1, h2⟩)
        · split at z
          · next h1 => exact ⟨0, by simp [Nat.testBit_zero, h1], by simpa using z⟩
          · simp at z
        · exact ⟨j + 1, by rw [Nat.testBit_succ]; exact h1, by rw [h2]; congr 1; omega⟩
      · rintro ⟨j, h1, h2⟩
        cases j with
        | zero =>
          rw [Nat.testBit_zero] at h1
          simp at h1
          left
          rw [if_pos h1]
          simpa using h2
        | succ j => exact .inr ⟨j, by rw [Nat.testBit_succ] at h1; exact h1, by rw [h2]; congr 1; omega⟩
theorem bitsFrom_rise : ∀ {n a x : Nat}, (bitsFrom a n x).Pairwise (· < ·) ∧ ∀ y ∈ bitsFrom a n x, (a : Int) ≤ y
  | 0, _, _ => ⟨.nil, by simp [bitsFrom]⟩
  | n + 1, a, x => by
    obtain ⟨h1, h2⟩ := bitsFrom_rise (n := n) (a := a + 1) (x := x / 2)
    unfold bitsFrom
    by_cases hx : x = 0
    · simp [hx]
    · rw [if_neg hx]
      split
      · refine ⟨List.pairwise_cons.mpr ⟨fun y hy => ?_, h1⟩, fun y hy => ?_⟩
        · have := h2 y hy
          omega
        · rcases List.mem_cons.mp hy with z | z
          · omega
          · have := h2 y z
            omega
      · refine ⟨by simpa using h1, fun y hy => ?_⟩
        have := h2 y (by simpa using hy)
        omega
theorem bitsFrom_len : ∀ {k n a x : Nat}, x < 2 ^ k → (bitsFrom a n x).length ≤ k
  | k, 0, _, _, _ => by simp [bitsFrom]
  | 0, n + 1, a, x, h => by
    have : x = 0 := by omega
    simp [bitsFrom, this]
  | k + 1, n + 1, a, x, h => by
    have := bitsFrom_len (k := k) (n := n) (a := a + 1) (x := x / 2) (by rw [Nat.pow_succ] at h; omega)
    unfold bitsFrom
    split
    · simp
    · split <;> simp <;> omega
/-- the rising list of a set of places -/
def Rise (xs : List Int) (S : Nat → Prop) : Prop := xs.Pairwise (· < ·) ∧ ∀ y : Int, y ∈ xs ↔ ∃ j : Nat, S j ∧ y = j
theorem Rise.ext {xs ys : List Int} {S : Nat → Prop} (h : Rise xs S) (h' : Rise ys S) : xs = ys := rise_ext h.1 h'.1 fun k => (h.2 k).trans (h'.2 k).symm
theorem Rise.nil {xs : List Int} {S : Nat → Prop} (h : Rise xs S) : xs = [] ↔ ∀ j, ¬ S j := by
  constructor
  · rintro rfl j hj
    exact absurd ((h.2 j).mpr ⟨j, hj, rfl⟩) (by simp)
  · intro z
    cases hx : xs with
    | nil => rfl
    | cons y ys =>
      obtain ⟨j, h1, _⟩ := (h.2 y).mp (by rw [hx]; simp)
      exact absurd h1 (z j)
def NetOk (net : List (List Int)) : Prop := ∀ (k : Nat) (row : List Int), net[k]? = some row → (∀ e ∈ row, 0 ≤ e ∧ e < (k : Int)) ∧ row.Pairwise (· < ·)
inductive Anc (net : List (List Int)) : Nat → Nat → Prop
  | rf (i : Nat) : Anc net i i
  | st {i k j : Nat} {row : List Int} : net[i]? = some row → ((k : Nat) : Int) ∈ row → Anc net k j → Anc net i j
theorem anc_iff {net : List (List Int)} {i j : Nat} {row : List Int} (h : net[i]? = some row) : Anc net i j ↔ j = i ∨ ∃ k : Nat, ((k : Nat) : Int) ∈ row ∧ Anc net k j := by
  constructor
  · intro a
    cases a with
    | rf => exact .inl rfl
    | st h1 h2 h3 => rw [h] at h1; cases h1; exact .inr ⟨_, h2, h3⟩
  · rintro (rfl | ⟨k, h2, h3⟩)
    · exact .rf _
    · exact .st h h2 h3
theorem anc_le {net : List (List Int)} (hn : NetOk net) {i j : Nat} (h : Anc net i j) : j ≤ i := by
  induction h with
  | rf => exact Nat.le_refl _
  | st h1 h2 _ ih =>
    have := ((hn _ _ h1).1 _ h2).2
    omega
def RowOk (n : Nat) (row : List Bool) (S : Nat → Prop) : Prop := row.length = n ∧ ∀ (j : Nat) (b : Bool), row[j]? = some b → (b = true ↔ S j)
theorem RowOk.iff {n : Nat} {row : List Bool} {S T : Nat → Prop} (h : RowOk n row S) (e : ∀ j, S j ↔ T j) : RowOk n row T := ⟨h.1, fun j b z => (h.2 j b z).trans (e j)⟩
theorem RowOk.at {n : Nat} {row : List Bool} {S : Nat → Prop} (h : RowOk n row S) {j : Nat} (hj : j < n) : ∃ b, row[j]? = some b ∧ (b = true ↔ S j) := by
  have : j < row.length := by rw [h.1]; exact hj
  exact ⟨row[j], List.getElem?_eq_getElem this, h.2 j _ (List.getElem?_eq_getElem this)⟩
theorem any_int (x : Int) (xs : List Int) : ((xs.map PyData.int).any fun z => PyData.eqv z (.int x)) = decide (x ∈ xs) := by
  induction xs with
  | nil => simp
  | cons y ys ih =>
    rw [List.map_cons, List.any_cons, ih, eqt_int.eq]
    by_cases h : y = x
    · simp [h]
    · have h2 : ¬ x = y := fun e => h e.symm
      simp [h, h2]
theorem any_bool (x : Bool) (xs : List Bool) : ((xs.map PyData.bool).any fun z => PyData.eqv z (.bool x)) = decide (x ∈ xs) := by
  induction xs with
  | nil => simp
  | cons y ys ih =>
    rw [List.map_cons, List.any_cons, ih, eqt_bool.eq]
    by_cases h : y = x
    · simp [h]
    · have h2 : ¬ x = y := fun e => h e.symm
      simp [h, h2]
theorem rise_len {xs : List Int} {S : Nat → Prop} {n : Nat} (h : Rise xs S) (hS : ∀ j, S j → j < n) : xs.length ≤ n := by
  have key : ∀ (l : List Int) (a : Nat), l.Pairwise (· < ·) → (∀ x ∈ l, (a : Int) ≤ x ∧ x < n) → a ≤ n → l.length + a ≤ n := by
    intro l
    induction l with
    | nil => intro a _ _ h; simpa using h
    | cons y l ih =>
      intro a hp hq ha
      rw [List.pairwise_cons] at hp
      have hy := hq y (by simp)
      have := ih (y.toNat + 1) hp.2 (fun x hx => ⟨by have := hp.1 x hx; omega, (hq x (by simp [hx])).2⟩) (by omega)
      simp
      omega
  simpa using key xs 0 h.1 (fun x hx => by obtain ⟨j, hj, rfl⟩ := (h.2 x).mp hx; have := hS j hj; omega) (Nat.zero_le _)
theorem sortI_mem {x : Int} {xs : List Int} : x ∈ sortI xs ↔ x ∈ xs := (sortI_perm xs).mem_iff
theorem net_ok {rows : List (List Int)} (h : RowsOk rows) : NetOk (netR rows) := by
  intro k row hk
  unfold netR at hk
  rw [List.getElem?_map] at hk
  cases hr : rows[k]? with
  | none => rw [hr] at hk; simp at hk
  | some r =>
    rw [hr] at hk
    simp at hk
    subst hk
    obtain ⟨q1, q2, _⟩ := h k r hr
    refine ⟨fun e he => q1 e (sortI_mem.mp he), ?_⟩
    have nd : (sortI r).Nodup := (sortI_perm r).nodup_iff.mpr q2
    exact ((sortI_le r).and nd).imp fun ⟨a, b⟩ => by omega

theorem cShl_of {j : Int} (h0 : 0 ≤ j) (h : j < 100000) : cShl 1 j = true := by
  unfold cShl
  rw [decide_eq_true h0, Bool.true_and]
  refine decide_eq_true ?_
  have : Builtin.Int.intBits 1 = 1 := by decide
  rw [this]
  omega
theorem isIn_msk {n : Nat} {b : Int} {S : Nat → Prop} (h : Msk n b S) {j : Int} (h0 : 0 ≤ j) : (Builtin.bitAnd (b / 2 ^ j.toNat) 1 = 1) ↔ S j.toNat := by
  rw [← h.bit j.toNat]
  obtain ⟨k, rfl⟩ : ∃ k : Nat, j = k := ⟨j.toNat, by omega⟩
  obtain ⟨m, rfl⟩ : ∃ m : Nat, b = m := ⟨b.toNat, by have := h.nn; omega⟩
  simp only [Int.toNat_natCast]
  have e : ((m : Int) / 2 ^ k) = ((m / 2 ^ k : Nat) : Int) := by simp
  rw [e, band_pos (Int.natCast_nonneg _) (by decide)]
  simp only [Int.toNat_natCast]
  rw [show ((1 : Int).toNat) = 1 from rfl, Nat.and_one_is_mod, Nat.testBit_eq_decide_div_mod_eq]
  simp
  omega
/-! ## bits_of -/
def bBitsOf : DS := (bSeq (bSetX 1 (xC (nL (dLst dA0)))) (bSeq (bFor [2, 3, 4, 5] (gT2 (gN 2) (gN 3)) (iEnum (dVar 0)) (bSeq (bSet 4 (dI kShl (dC (.int 1)) (dVar 2))) (bSeq (bFor [5] (gN 5) (iSeq (dVar 3)) (bSeq (bSet 4 (dI kOr (dVar 4) (dIxB (dVar 1) (dVar 5)))) bNil)) (bSeq (bExpr (dLm 1 qAppend (dAc (dFrz (dVar 4)) dA0))) bNil)))) (bSeq (bRetO 1) bNil)))
def BitsOk (net : List (List Int)) (bs : List Int) : Prop := bs.length = net.length ∧ ∀ (i : Nat) (b : Int), bs[i]? = some b → Msk net.length b (Anc net i)
theorem bitsOf_u (net : List (List Int)) (hN : NetOk net) (hn : net.length ≤ 1000) : ∃ bs, BitsOk net bs ∧ runB 6 1 bBitsOf [.d (dTT net)] = .val (.c (.lst (bs.map PyData.int)), [.un]) := by
  have key : Ok (runB 6 1 bBitsOf [.d (dTT net)]) fun z => ∃ bs, BitsOk net bs ∧ z = (.c (.lst (bs.map PyData.int)), [.un]) := by
    refine ok_run rfl ?_
    unfold bBitsOf
    apply w_setX
    · exact x_c (c_l (n_lst a_nil rfl rfl))
    refine w_for (y := (enumD (net.map fun r => dT r), false)) (Γ1 := [.dat false (dTT net), .own (.lst []), .un, .un, .un, .un]) (fun i Γ => ∃ bs : List Int, Γ = [.dat false (dTT net), .own (.lst (bs.map PyData.int)), .un, .un, .un, .un] ∧ bs.length = i ∧ ∀ (i : Nat) (b : Int), bs[i]? = some b → Msk net.length b (Anc net i)) ?_ ⟨[], rfl, rfl, fun i b z => by simp at z⟩ ?_ ?_
    · exact i_enumT (e_var rfl)
    · rintro i d Γ hd ⟨bs, rfl, hbl, hbs⟩
      obtain ⟨x, hx, rfl⟩ := enumD_at hd
      obtain ⟨row, hr, rfl⟩ := gmap hx
      obtain ⟨r1, r2⟩ := hN i row hr
      have hi : i < net.length := (List.getElem?_eq_some_iff.mp hr).1
      refine ⟨_, rfl, ?_⟩
      apply w_set
      · apply e_I
        · exact e_C
        · exact e_var rfl
        · exact k_shl (cShl_of (by omega) (by omega))
      refine w_for (y := (row.map PyData.int, false)) (Γ1 := [.dat false (dTT net), .own (.lst (bs.map PyData.int)), .dat false (.int (i : Nat)), .dat false (dT row), .dat true (.int (1 * 2 ^ ((i : Nat) : Int).toNat)), .un]) (fun k Γ => ∃ t : Int, Γ = [.dat false (dTT net), .own (.lst (bs.map PyData.int)), .dat false (.int (i : Nat)), .dat false (dT row), .dat true (.int t), .un] ∧ Msk net.length t (fun j => j = i ∨ ∃ m : Nat, (m : Int) ∈ row.take k ∧ Anc net m j)) ?_ ⟨_, rfl, ?_⟩ ?_ ?_
      · exact i_seqT (e_var rfl)
      · rw [Int.toNat_natCast]
        exact (msk_one hi).iff fun j => by simp
      · rintro k d Γ hd ⟨t, rfl, ht⟩
        obtain ⟨y, hy, rfl⟩ := gmap hd
        obtain ⟨y0, y1⟩ := r1 y (mem_at hy)
        obtain ⟨b, hb⟩ : ∃ b, bs[y.toNat]? = some b := ⟨_, List.getElem?_eq_getElem (by omega)⟩
        refine ⟨_, rfl, ?_⟩
        apply w_set
        · apply e_I
          · exact e_var rfl
          · apply e_ixS
            · exact e_varO rfl
            · exact e_var rfl
            · rfl
            · have e : y = ((y.toNat : Nat) : Int) := by omega
              rw [e]
              exact atI_nat (by rw [List.getElem?_map, hb]; rfl)
          · exact k_or
        refine w_nil ⟨_, rfl, (msk_or ht (hbs _ _ hb)).iff fun j => ?_⟩
        rw [take_step hy]
        constructor
        · rintro ((z | ⟨k, k1, k2⟩) | z)
          · exact .inl z
          · exact .inr ⟨k, by simp [k1], k2⟩
          · exact .inr ⟨y.toNat, by simp; right; omega, z⟩
        · rintro (z | ⟨k, k1, k2⟩)
          · exact .inl (.inl z)
          · rcases List.mem_append.mp k1 with q | q
            · exact .inl (.inr ⟨k, q, k2⟩)
            · simp at q
              refine .inr ?_
              have : k = y.toNat := by omega
              rw [← this]; exact k2
      · rintro Γ ⟨t, rfl, ht⟩
        have ht : Msk net.length t (Anc net i) := ht.iff fun j => by
          show (j = i ∨ ∃ m : Nat, (m : Int) ∈ row.take (row.map PyData.int).length ∧ Anc net m j) ↔ _
          rw [List.length_map, List.take_length]
          exact (anc_iff hr).symm
        apply w_expr
        · apply e_app
          · rfl
          · exact e_var rfl
          · rfl
          · exact ltS_of (by rw [List.length_map]; omega)
        refine w_nil ⟨bs ++ [t], ?_, by simp [hbl], fun k c z => ?_⟩
        · rw [List.map_append]; rfl
        · by_cases hk : k < bs.length
          · rw [List.getElem?_append_left hk] at z
            exact hbs k c z
          · have hk2 : k = bs.length := by
              have := (List.getElem?_eq_some_iff.mp z).1
              simp at this
              omega
            subst hk2
            simp at z
            subst z
            rw [hbl]
            exact ht
    · rintro Γ ⟨bs, rfl, hbl, hbs⟩
      apply w_retO
      · rfl
      refine ⟨_, _, rfl, rfl, bs, ⟨?_, hbs⟩, rfl⟩
      rw [hbl]
      show (enumD (net.map fun r => dT r)).length = _
      rw [enumD_len, List.length_map]
  obtain ⟨z, e, bs, h, rfl⟩ := key
  exact ⟨bs, h, e⟩
end PD


set_option linter.all false
set_option maxRecDepth 100000
set_option autoImplicit false
namespace PD
open PySem L2
/-- a comprehension whose parts change nothing -/
theorem n_comp {α : Type} {enc : α → PyData} (xs : List α) (p : α → Bool) (v : α → PyData) {vs : List Nat} {g : DG} {it : DI} {t : DT} {e : DF} {Γ Γ1 Γ0 : List Sl} {fr : Bool} (h1 : it Γ = .val ((xs.map enc, fr), Γ1)) (hs : xs.length < 2 ^ 20) (h0 : wipeG Γ1 vs = Γ0)
    (hb : ∀ x ∈ xs, ∃ Γ2, g fr (enc x) Γ0 = some Γ2 ∧ wipeG Γ2 vs = Γ0 ∧ t Γ2 = .val (p x, Γ2) ∧ (p x = true → e Γ2 = .val (.d true (v x), Γ2))) : nComp vs g it t e Γ = .val ((xs.filter p).map v, Γ0) := by
  unfold nComp
  rw [h1, bind_val]
  have : szB (xs.map enc) = true := szB_of (by rw [List.length_map]; exact hs)
  show (R.req (szB (xs.map enc))).bind _ = _
  rw [this, req_true, bind_val]
  refine ok_eq (ok_compU (fun i out Γ => Γ = Γ0 ∧ out = ((xs.take i).filter p).map v) (xs.map enc) ⟨h0, by simp⟩ (fun i d out Γ hd hI => ?_) fun out Γ hI => ?_)
  · obtain ⟨rfl, rfl⟩ := hI
    obtain ⟨x, hx, rfl⟩ := gmap hd
    obtain ⟨Γ2, q1, q2, q3, q4⟩ := hb x (mem_at hx)
    refine ⟨Γ2, q1, ok_of q3 ?_⟩
    show if p x = true then _ else _
    by_cases hp : p x = true
    · rw [if_pos hp]
      refine ok_of (q4 hp) ⟨v x, rfl, q2, ?_⟩
      rw [take_step hx, List.filter_append, List.map_append]
      simp [hp]
    · rw [if_neg hp]
      refine ⟨q2, ?_⟩
      rw [take_step hx, List.filter_append, List.map_append]
      simp [hp]
  · obtain ⟨rfl, rfl⟩ := hI
    show (_, _) = (_, _)
    rw [List.length_map, List.take_length]
theorem k_ninI {Γ : List Sl} {fr fr2 : Bool} (x : Int) (ns : List Int) : kNinB Γ (.d fr (.int x)) (.d fr2 (dL ns)) = .val (!decide (x ∈ ns)) := by
  unfold kNinB kInB dicA kIn
  simp only [rdD]
  rw [eqt_int.sh (by decide) x, (eqt_list eqt_int).sh (by decide) ns, any_int]
  rfl
theorem k_inI {Γ : List Sl} {fr fr2 : Bool} (x : Int) (ns : List Int) : kInB Γ (.d fr (.int x)) (.d fr2 (dL ns)) = .val (decide (x ∈ ns)) := by
  unfold kInB dicA kIn
  simp only [rdD]
  rw [eqt_int.sh (by decide) x, (eqt_list eqt_int).sh (by decide) ns, any_int]
  rfl
theorem at_int {bs : List Int} {i : Int} {b : Int} (h0 : 0 ≤ i) (h : bs[i.toNat]? = some b) : atI (bs.map PyData.int) i = some (.int b) := by
  have e : i = ((i.toNat : Nat) : Int) := by omega
  rw [e]
  exact atI_nat (by rw [List.getElem?_map]; simp [h])
/-! ## lesser_side -/
def inb (b one : Int) : Bool := decide (Builtin.bitAnd (b / 2 ^ one.toNat) 1 = 1)
def uIsIn : List Ar → R (Rs × List Sl) := runB 2 2 bIsIn
def bLesser : DS := (bSeq (bSet 3 (dB kLen (dAc (dOfN (nComp [4] (gN 4) (iSeq (dVar 1)) (dTst (eX (xCall uIsIn [] (dAc (dIxB (dVar 0) (dVar 2)) (dAc (dVar 4) dA0))))) (dFrz (dVar 4)))) dA0))) (bSeq (bRet (dB kMin2 (dAc (dVar 3) (dAc (dI kSub (dB kLen (dAc (dVar 1) dA0)) (dVar 3)) dA0)))) bNil))
def lesr (b : Int) (ms : List Int) : Int := min2 ((ms.filter (inb b)).length : Nat) ((ms.length : Nat) - ((ms.filter (inb b)).length : Nat))
theorem lesser_u (bs ms : List Int) (m b : Int) (hm : 0 ≤ m) (hb : bs[m.toNat]? = some b) (hms : ∀ x ∈ ms, 0 ≤ x) (hl : ms.length < 2 ^ 20) : runB 5 3 bLesser [.d (dL bs), .d (dT ms), .d (.int m)] = .val (.d (.int (lesr b ms)), [.un, .un, .un]) := by
  refine ok_eq (ok_run rfl ?_)
  unfold bLesser
  apply w_set
  · apply e_B
    · apply a_cons
      · apply e_ofN
        refine n_comp (enc := PyData.int) ms (inb b) PyData.int (fr := false) (Γ1 := [.dat false (dL bs), .dat false (dT ms), .dat true (.int m), .un, .un]) ?_ hl rfl fun x hx => ⟨_, rfl, rfl, ?_, fun _ => ?_⟩
        · exact i_seqT (e_var rfl)
        · apply t_tst
          apply e_xd
          apply x_call
          · apply a_cons
            · apply e_ixL
              · exact e_var rfl
              · exact e_var rfl
              · exact at_int hm hb
            · apply a_cons
              · exact e_var rfl
              · exact a_nil
          · rfl
          · exact isIn_u b x (hms x hx)
        · exact e_frzF (d := .int x) (e_var rfl)
      · exact a_nil
    · exact k_lenL rfl
  apply w_ret
  · apply e_B
    · apply a_cons
      · exact e_var rfl
      · apply a_cons
        · apply e_I
          · apply e_B
            · symm_saturate
            · exact k_lenT rfl
          · exact e_var rfl
          · exact k_sub
        · exact a_nil
    · rfl
  refine ⟨_, _, rfl, rfl, ?_⟩
  simp only [List.length_map]
  rfl
/-! ## evenest -/
def uLesser : List Ar → R (Rs × List Sl) := runB 5 3 bLesser
def bEvenest : DS := (bSeq (bSet 3 (dC .none)) (bSeq (bSet 4 (dC (.int 0))) (bSeq (bFor [5, 6] (gN 5) (iRange1 (dB kLen (dAc (dVar 0) dA0))) (bSeq (bIf (dTst (dCmp kNinB (dVar 5) (dVar 2))) (bSeq (bSet 6 (eX (xCall uLesser [] (dAc (dVar 0) (dAc (dVar 1) (dAc (dVar 5) dA0)))))) (bSeq (bIf (dTst (dCmp (kI fun i j => decide (j < i)) (dVar 6) (dVar 4))) (bSeq (bSet 3 (dFrz (dVar 5))) (bSeq (bSet 4 (dFrz (dVar 6))) bNil)) bNil) bNil)) bNil) bNil)) (bSeq (bRet (dVar 3)) bNil))))
def optI : Option Int → PyData
  | none => .none
  | some i => .int i
/-- the best of the first n places -/
def BestAt (L : Nat → Int) (barred : List Int) (n : Nat) (best : Option Int) (most : Int) : Prop := match best with
  | none => most = 0 ∧ ∀ k : Nat, k < n → ((k : Nat) : Int) ∉ barred → L k ≤ 0
  | some m => ∃ j : Nat, m = j ∧ j < n ∧ ((j : Nat) : Int) ∉ barred ∧ most = L j ∧ 0 < L j ∧ (∀ k : Nat, k < n → ((k : Nat) : Int) ∉ barred → L k ≤ L j) ∧ ∀ k : Nat, k < j → ((k : Nat) : Int) ∉ barred → L k < L j
theorem BestAt.nn {L : Nat → Int} {barred : List Int} {n : Nat} {best : Option Int} {most : Int} (h : BestAt L barred n best most) : 0 ≤ most := by
  cases best with
  | none => have := h.1; omega
  | some m => obtain ⟨j, _, _, _, h1, h2, _⟩ := h; omega
theorem BestAt.skip {L : Nat → Int} {barred : List Int} {n : Nat} {best : Option Int} {most : Int} (h : BestAt L barred n best most) (hs : ((n : Nat) : Int) ∈ barred ∨ L n ≤ most) : BestAt L barred (n + 1) best most := by
  cases best with
  | none =>
    obtain ⟨h1, h2⟩ := h
    refine ⟨h1, fun k hk hb => ?_⟩
    by_cases e : k = n
    · subst e
      rcases hs with q | q
      · exact absurd q hb
      · omega
    · exact h2 k (by omega) hb
  | some m =>
    obtain ⟨j, e1, e2, e3, e4, e5, e6, e7⟩ := h
    refine ⟨j, e1, by omega, e3, e4, e5, fun k hk hb => ?_, e7⟩
    by_cases e : k = n
    · subst e
      rcases hs with q | q
      · exact absurd q hb
      · omega
    · exact e6 k (by omega) hb
theorem BestAt.more {L : Nat → Int} {barred : List Int} {n : Nat} {best : Option Int} {most : Int} (h : BestAt L barred n best most) (hb : ((n : Nat) : Int) ∉ barred) (hs : most < L n) : BestAt L barred (n + 1) (some (n : Int)) (L n) := by
  have nn := h.nn
  have old : ∀ k : Nat, k < n → ((k : Nat) : Int) ∉ barred → L k ≤ most := by
    cases best with
    | none => obtain ⟨h1, h2⟩ := h; intro k hk hb; have := h2 k hk hb; omega
    | some m => obtain ⟨j, e1, e2, e3, e4, e5, e6, e7⟩ := h; intro k hk hb; rw [e4]; exact e6 k hk hb
  refine ⟨n, rfl, by omega, hb, rfl, by omega, fun k hk hb => ?_, fun k hk hb => ?_⟩
  · by_cases e : k = n
    · subst e; omega
    · have := old k (by omega) hb; omega
  · have := old k hk hb; omega
def lesAt (bs ms : List Int) (k : Nat) : Int := lesr (bs[k]?.getD 0) ms
theorem rng_at {j : Int} {i : Nat} {x : Int} (h : (rng 0 j)[i]? = some x) : x = (i : Nat) ∧ (i : Int) < j := by
  unfold rng at h
  obtain ⟨k, hk, rfl⟩ := gmap h
  rw [List.getElem?_range (by
    have := (List.getElem?_eq_some_iff.mp hk).1
    simpa using this)] at hk
  cases hk
  have := (List.getElem?_eq_some_iff.mp h).1
  simp at this
  omega
theorem rng_len (i j : Int) : (rng i j).length = (j - i).toNat := by unfold rng; simp
theorem cRng_of {i j : Int} (h1 : -(2 ^ 62) ≤ i) (h2 : i < 2 ^ 62) (h3 : -(2 ^ 62) ≤ j) (h4 : j < 2 ^ 62) : cRng i j = true := decide_eq_true ⟨h1, h2, h3, h4⟩
theorem evenest_u (bs ms barred : List Int) (hb : bs.length < 2 ^ 20) (hms : ∀ x ∈ ms, 0 ≤ x) (hl : ms.length < 2 ^ 20) :
    ∃ best most, BestAt (lesAt bs ms) barred bs.length best most ∧ runB 7 3 bEvenest [.d (dL bs), .d (dT ms), .d (dL barred)] = .val (.d (optI best), [.un, .un, .un]) := by
  have key : Ok (runB 7 3 bEvenest [.d (dL bs), .d (dT ms), .d (dL barred)]) fun z => ∃ best most, BestAt (lesAt bs ms) barred bs.length best most ∧ z = (.d (optI best), [.un, .un, .un]) := by
    refine ok_run rfl ?_
    unfold bEvenest
    apply w_set
    · exact e_C
    apply w_set
    · exact e_C
    refine w_for (y := ((rng 0 (bs.length : Nat)).map PyData.int, true)) (Γ1 := [.dat false (dL bs), .dat false (dT ms), .dat false (dL barred), .dat true .none, .dat true (.int 0), .un, .un]) (fun i Γ => ∃ best most, BestAt (lesAt bs ms) barred i best most ∧ Γ = [.dat false (dL bs), .dat false (dT ms), .dat false (dL barred), .dat true (optI best), .dat true (.int most), .un, .un]) ?_ ⟨none, 0, ⟨rfl, fun k hk => by omega⟩, rfl⟩ ?_ ?_
    · apply i_range1
      · apply e_B
        · symm_saturate
        · have := k_lenL (Γ := initS 7 [.d (dL bs), .d (dT ms), .d (dL barred)]) (a := .d false (dL bs)) (ds := bs.map PyData.int) rfl
          rw [List.length_map] at this
          exact this
      · exact cRng_of (by decide) (by decide) (by omega) (by omega)
    · rintro i d Γ hd ⟨best, most, hB, rfl⟩
      obtain ⟨x, hx, rfl⟩ := gmap hd
      obtain ⟨rfl, hi⟩ := rng_at hx
      obtain ⟨b, hbi⟩ : ∃ b, bs[i]? = some b := ⟨_, List.getElem?_eq_getElem (by omega)⟩
      have hL : lesAt bs ms i = lesr b ms := by unfold lesAt; rw [hbi]; rfl
      refine ⟨_, rfl, ?_⟩
      apply w_if
      · apply t_tst
        apply e_cmp
        · exact e_var rfl
        · exact e_var rfl
        · exact k_ninI _ _
      · intro hz
        have hz : ((i : Nat) : Int) ∉ barred := by simpa using hz
        apply w_seqA
        apply w_set
        · apply e_xd
          apply x_call
          · symm_saturate
          · rfl
          · exact lesser_u bs ms ((i : Nat) : Int) b (by omega) (by simpa using hbi) hms hl
        apply w_seqA
        apply w_if
        · apply t_tst
          apply e_cmp
          · exact e_var rfl
          · exact e_var rfl
          · exact k_I
        · intro hz2
          have hz2 : most < lesr b ms := by simpa using hz2
          apply w_seqA
          apply w_set
          · exact e_frz (e_var rfl)
          apply w_seqA
          apply w_set
          · exact e_frz (e_var rfl)
          apply w_seqN
          apply w_seqN
          refine w_nil ⟨some (i : Int), lesr b ms, ?_, rfl⟩
          rw [← hL]
          exact hB.more hz (by rw [hL]; exact hz2)
        · intro hz2
          have hz2 : ¬ most < lesr b ms := by simpa using hz2
          apply w_seqN
          apply w_seqN
          exact w_nil ⟨best, most, hB.skip (.inr (by rw [hL]; omega)), rfl⟩
      · intro hz
        have hz : ((i : Nat) : Int) ∈ barred := by simpa using hz
        apply w_seqN
        exact w_nil ⟨best, most, hB.skip (.inl hz), rfl⟩
    · rintro Γ ⟨best, most, hB, rfl⟩
      apply w_ret
      · exact e_var rfl
      refine ⟨_, _, rfl, rfl, best, most, ?_, rfl⟩
      have e : ((rng 0 (bs.length : Nat)).map PyData.int).length = bs.length := by rw [List.length_map, rng_len]; omega
      rw [← e]
      exact hB
  obtain ⟨z, e, best, most, h, rfl⟩ := key
  exact ⟨best, most, h, e⟩
end PD


set_option linter.all false
set_option maxRecDepth 100000
set_option autoImplicit false
namespace PD
open PySem L2
theorem e_frzT {Γ Γ1 : List Sl} {f : DF} {fr : Bool} {d : PyData} (h1 : f Γ = .val (.d fr d, Γ1)) (h2 : flat d = true) : dFrz f Γ = .val (.d true d, Γ1) := by
  have := e_frzD h1
  rw [h2, Bool.or_true] at this
  exact this
theorem x_callE {Γ Γ1 Γ2 : List Sl} {k : DA} {as : List AV} {ds : List PyData} {m : List Ar → R (Rs × List Sl)} {dds : List PyData} {r : Rs} {Z : List Sl} {p q : Nat} {ic : Bool × Cl} {cl : Cl} (h1 : k Γ = .val (as, Γ1)) (h2 : pickC p as = some q) (h3 : cellAt Γ1 q = some ic) (h4 : rdDs Γ1 (some q) (as.eraseIdx p) = some ds) (h5 : ic.2.fl = true) (h6 : m (insC p ic.2 (ds ++ dds)) = .val (r, Z)) (h7 : ioAt p Z = some cl) (h8 : Γ1.set q (mkS ic.1 cl) = Γ2) :
    xCallC m p dds k Γ = .val (r, Γ2) := by rw [x_callC h1 h2 h3 h4 h5 h6 h7, h8]
local macro_rules
  | `(tactic| apply_mod_cast $h) => `(tactic| (apply e_xd; apply x_callE; (· symm_saturate); (· rfl); (· rfl); (· rfl); (· rfl); (· exact $h); (· rfl); (· rfl)))
def uTake : List Ar → R (Rs × List Sl) := runB 4 2 feedTake
theorem take_q (f : Fd) (n : Int) (hm : 0 < n) (hn : n < 2 ^ 64) : ∃ r f', uTake [.c (.feed f), .d (.int n)] = .val (.d (.int r), [.io (.feed f'), .un]) ∧ 0 ≤ r ∧ r < n := by
  obtain ⟨z, e, r, f', rfl, h1, h2⟩ := feedTake_ok f n hm hn
  exact ⟨r, f', e, h1, h2⟩
def bFeed : DS := (bSeq (bRetC (nFeed 0)) bNil)
theorem feed_q (ns : List Int) : runB 1 1 bFeed [.d (dL ns)] = .val (.c (.feed (cutD ns none (some 63), 0, 0)), [.un]) := by
  refine ok_eq (ok_run rfl ?_)
  unfold bFeed
  apply w_retC
  · show nFeed 0 [.dat false (dL ns)] = _
    unfold nFeed
    show (R.ofO (intsOf (ns.map PyData.int))).bind _ = _
    rw [intsOf_map]
    rfl
  exact ⟨_, _, rfl, rfl, rfl⟩
theorem rng_rise (i j : Int) : (rng i j).Pairwise (· < ·) := by
  unfold rng
  rw [List.pairwise_map]
  exact List.pairwise_lt_range.imp fun h => by omega
theorem rng_mem0 {j x : Int} : x ∈ rng 0 j ↔ 0 ≤ x ∧ x < j := by
  unfold rng
  simp only [List.mem_map, List.mem_range]
  constructor
  · rintro ⟨i, hi, rfl⟩; omega
  · rintro ⟨h1, h2⟩; exact ⟨x.toNat, by omega, by omega⟩
theorem k_ninS {Γ : List Sl} {fr : Bool} {j : Nat} (x : Int) (ns : List Int) (h : Γ[j]? = some (.own (.lst (ns.map PyData.int)))) : kNinB Γ (.d fr (.int x)) (.s j) = .val (!decide (x ∈ ns)) := by
  unfold kNinB kInB dicA kIn
  simp only [rdD, h]
  rw [eqt_int.sh (by decide) x, (eqt_list eqt_int).sh (by decide) ns, any_int]
  rfl
/-! ## elders drawn -/
def bElders : DS := (bSeq (bIf (dTst (dCmp kEq (dVar 2) (dC (.int 0)))) (bSeq (bRetC (nL (dLst (dAc (dI kSub (dVar 1) (dC (.int 1))) dA0)))) bNil) bNil) (bSeq (bIf (dTst (dCmp kEq (dVar 2) (dC (.int 1)))) (bSeq (bRetC (nL (dLst (dAc (dC (.int 0)) dA0)))) bNil) bNil) (bSeq (bIf (dTst (dCmp kEq (dVar 2) (dC (.int 2)))) (bSeq (bRetC (nL (dLst dA0))) bNil) bNil) (bSeq (bIf (dTst (dCmp kEq (dVar 2) (dC (.int 3)))) (bSeq (bRetC (nL (dLst (dAc (dI kDiv (dVar 1) (dC (.int 2))) dA0)))) bNil) bNil) (bSeq (bIf (dTst (dCmp kEq (dVar 2) (dC (.int 4)))) (bSeq (bRetC (nL (nComp [5] (gN 5) (iRange1 (dVar 1)) (dTst (dCmp kEq (eX (xCallC uTake 0 [] (dAc (dVar 0) (dAc (dC (.int 2)) dA0)))) (dC (.int 1)))) (dFrz (dVar 5))))) bNil) bNil) (bSeq (bSetX 3 (xC (nL (dLst dA0)))) (bSeq (bFor [4, 5] (gN 4) (iRange1 (eX (xCallC uTake 0 [] (dAc (dVar 0) (dAc (dC (.int 7)) dA0))))) (bSeq (bSet 5 (eX (xCallC uTake 0 [] (dAc (dVar 0) (dAc (dVar 1) dA0))))) (bSeq (bIf (dTst (dCmp kNinB (dVar 5) (dVar 3))) (bSeq (bExpr (dLm 3 qAppend (dAc (dFrz (dVar 5)) dA0))) bNil) bNil) bNil))) (bSeq (bRetO 3) bNil))))))))
def uElders : List Ar → R (Rs × List Sl) := runB 6 3 bElders
def EldOk (make : Int) (r : List Int) : Prop := (∀ e ∈ r, 0 ≤ e ∧ e < make) ∧ r.Nodup ∧ r.length < 64
theorem elders_q (f : Fd) (make way : Int) (h0 : 0 < make) (h1 : make ≤ 50) : ∃ r f', uElders [.c (.feed f), .d (.int make), .d (.int way)] = .val (.c (.lst (r.map PyData.int)), [.io (.feed f'), .un, .un]) ∧ EldOk make r := by
  have key : Ok (uElders [.c (.feed f), .d (.int make), .d (.int way)]) fun z => ∃ r f', z = (.c (.lst (r.map PyData.int)), [.io (.feed f'), .un, .un]) ∧ EldOk make r := by
    refine ok_run rfl ?_
    unfold bElders
    have one : ∀ (x : Int), 0 ≤ x → x < make → EldOk make [x] := fun x h1 h2 => ⟨by simp; omega, by simp, by simp⟩
    apply w_if
    · symm_saturate
    · intro _
      apply w_seqA
      apply w_retC
      · symm_saturate
      exact ⟨_, _, rfl, rfl, [_], _, rfl, one _ (by omega) (by omega)⟩
    intro _
    apply w_seqN
    apply w_if
    · symm_saturate
    · intro _
      apply w_seqA
      apply w_retC
      · symm_saturate
      exact ⟨_, _, rfl, rfl, [_], _, rfl, one _ (by omega) (by omega)⟩
    intro _
    apply w_seqN
    apply w_if
    · symm_saturate
    · intro _
      apply w_seqA
      apply w_retC
      · symm_saturate
      exact ⟨_, _, rfl, rfl, [], _, rfl, by simp, by simp, by simp⟩
    intro _
    apply w_seqN
    apply w_if
    · symm_saturate
    · intro _
      apply w_seqA
      apply w_retC
      · apply c_l
        apply n_lst
        · apply a_cons
          · apply e_I
            · exact e_var rfl
            · exact e_C
            · exact k_div (divP (by decide) (by decide))
          · exact a_nil
        · rfl
        · rfl
      exact ⟨_, _, rfl, rfl, [_], _, rfl, one _ (by omega) (by omega)⟩
    intro _
    apply w_seqN
    apply w_if
    · symm_saturate
    · intro _
      apply w_seqA
      have hc := ok_compU (vs := [5]) (g := gN 5) (fr := true) (t := dTst (dCmp kEq (eX (xCallC uTake 0 [] (dAc (dVar 0) (dAc (dC (.int 2)) dA0)))) (dC (.int 1)))) (e := dFrz (dVar 5))
        (Post := fun z => ∃ (r : List Int) (f' : Fd), EldOk make r ∧ z = (r.map PyData.int, [.io (.feed f'), .dat true (.int make), .dat true (.int way), .un, .un, .un]))
        (fun i out Γ => ∃ (r : List Int) (f' : Fd), r.length ≤ i ∧ r.Pairwise (· < ·) ∧ (∀ x ∈ r, 0 ≤ x ∧ x < (i : Int)) ∧ out = r.map PyData.int ∧ Γ = [.io (.feed f'), .dat true (.int make), .dat true (.int way), .un, .un, .un])
        ((rng 0 make).map PyData.int) (Γ := [.io (.feed f), .dat true (.int make), .dat true (.int way), .un, .un, .un]) ⟨[], f, by simp, by simp, by simp, rfl, rfl⟩ ?_ ?_
      · obtain ⟨z, e, r, f', hr, rfl⟩ := hc
        apply w_retC
        · apply c_l
          show nComp [5] (gN 5) (iRange1 (dVar 1)) _ _ [.io (.feed f), .dat true (.int make), .dat true (.int way), .un, .un, .un] = _
          unfold nComp
          rw [i_range1 (fr := true) (e_var rfl) (cRng_of (by decide) (by decide) (by omega) (by omega)), bind_val]
          have hs : szB ((rng 0 make).map PyData.int) = true := szB_of (by rw [List.length_map, rng_len]; omega)
          show (R.req (szB ((rng 0 make).map PyData.int))).bind _ = _
          rw [hs, req_true]
          exact e
        exact ⟨_, _, rfl, rfl, r, f', rfl, hr⟩
      · rintro i d out Γ hd ⟨r, f', q1, q2, q3, rfl, rfl⟩
        obtain ⟨x, hx, rfl⟩ := gmap hd
        obtain ⟨rfl, hi⟩ := rng_at hx
        obtain ⟨t, f2, ht, t0, t1⟩ := take_q f' 2 (by decide) (by decide)
        refine ⟨_, rfl, ok_of (a := (decide (t = 1), [.io (.feed f2), .dat true (.int make), .dat true (.int way), .un, .un, .dat true (.int (i : Nat))])) ?_ ?_⟩
        · apply t_tst
          apply e_cmp
          · apply_mod_cast ht
          · exact e_C
          · exact k_eqI
        · show if decide (t = 1) = true then _ else _
          by_cases h1 : decide (t = 1) = true
          · rw [if_pos h1]
            refine ok_of (e_frz (e_var rfl)) ⟨_, rfl, r ++ [(i : Int)], f2, by simp; omega, ?_, ?_, by simp, rfl⟩
            · rw [List.pairwise_append]
              refine ⟨q2, by simp, fun a ha b hb => ?_⟩
              simp at hb
              subst hb
              exact (q3 a ha).2
            · intro y hy
              rcases List.mem_append.mp hy with h | h
              · have := q3 y h; omega
              · simp at h; omega
          · rw [if_neg h1]
            exact ⟨r, f2, by omega, q2, fun y hy => by have := q3 y hy; omega, rfl, rfl⟩
      · rintro out Γ ⟨r, f', q1, q2, q3, rfl, rfl⟩
        rw [List.length_map, rng_len] at q1 q3
        exact ⟨r, f', ⟨fun e he => by have := q3 e he; omega, q2.imp fun h => by omega, by omega⟩, rfl⟩
    intro _
    apply w_seqN
    apply w_setX
    · symm_saturate
    obtain ⟨n7, f1, h7, a7, b7⟩ := take_q f 7 (by decide) (by decide)
    refine w_for (y := ((rng 0 n7).map PyData.int, true)) (Γ1 := [.io (.feed f1), .dat true (.int make), .dat true (.int way), .own (.lst []), .un, .un])
      (fun i Γ => ∃ (r : List Int) (f' : Fd), r.length ≤ i ∧ r.Nodup ∧ (∀ x ∈ r, 0 ≤ x ∧ x < make) ∧ Γ = [.io (.feed f'), .dat true (.int make), .dat true (.int way), .own (.lst (r.map PyData.int)), .un, .un]) ?_ ⟨[], f1, by simp, by simp, by simp, rfl⟩ ?_ ?_
    · refine i_range1 (fr := true) ?_ (cRng_of (by decide) (by decide) (by omega) (by omega))
      apply_mod_cast h7
    · rintro i d Γ hd ⟨r, f', q1, q2, q3, rfl⟩
      have hi : i < 7 := by
        have := (List.getElem?_eq_some_iff.mp hd).1
        rw [List.length_map, rng_len] at this
        omega
      refine ⟨_, rfl, ?_⟩
      obtain ⟨t, f2, ht, t0, t1⟩ := take_q f' make (by omega) (by omega)
      apply w_set
      · apply_mod_cast ht
      apply w_if
      · apply t_tst
        apply e_cmp
        · exact e_var rfl
        · exact e_varO rfl
        · exact k_ninS t r rfl
      · intro hz
        have hz : t ∉ r := by simpa using hz
        apply w_seqA
        apply w_expr
        · apply e_app
          · rfl
          · exact e_var rfl
          · rfl
          · exact ltS_of (by rw [List.length_map]; omega)
        apply w_seqN
        refine w_nil ⟨r ++ [t], f2, by simp; omega, ?_, ?_, by rw [List.map_append]; rfl⟩
        · rw [List.nodup_append]
          exact ⟨q2, by simp, fun a ha b hb => by simp at hb; subst hb; exact fun e => hz (e ▸ ha)⟩
        · intro y hy
          rcases List.mem_append.mp hy with h | h
          · exact q3 y h
          · simp at h; omega
      · intro _
        apply w_seqN
        exact w_nil ⟨r, f2, by omega, q2, q3, rfl⟩
    · rintro Γ ⟨r, f', q1, q2, q3, rfl⟩
      rw [List.length_map, rng_len] at q1
      apply w_retO
      · rfl
      exact ⟨_, _, rfl, rfl, r, f', rfl, q3, q2, by omega⟩
  obtain ⟨z, e, r, f', rfl, h⟩ := key
  exact ⟨r, f', e, h⟩
end PD

section
open PySem L2 PD
local macro_rules
  | `(tactic| apply_mod_cast $h) => `(tactic| (apply e_xd; apply x_callE; (· symm_saturate); (· rfl); (· rfl); (· rfl); (· rfl); (· exact $h); (· rfl); (· rfl)))

set_option linter.all false
set_option maxRecDepth 100000
set_option autoImplicit false
namespace PD
open PySem L2
/-! ## rows drawn -/
def bRows : DS := (bSeq (bSetX 1 (xC (nL (dLst (dAc (dOfN (dLst dA0)) dA0))))) (bSeq (bSet 2 (eX (xCallC uTake 0 [] (dAc (dVar 0) (dAc (dC (.int 8)) dA0))))) (bSeq (bFor [3, 4] (gN 3) (iRange2 (dC (.int 1)) (dAdd (dC (.int 1)) (eX (xCallC uTake 0 [] (dAc (dVar 0) (dAc (dC (.int 40)) dA0)))))) (bSeq (bSet 4 (dFrz (dVar 2))) (bSeq (bIf (dTst (dCmp (kI fun i j => decide (j < i)) (dVar 2) (dC (.int 5)))) (bSeq (bSet 4 (eX (xCallC uTake 0 [] (dAc (dVar 0) (dAc (dC (.int 6)) dA0))))) bNil) bNil) (bSeq (bExpr (dLm 1 qAppend (dAc (dFrz (eX (xCallC uElders 0 [] (dAc (dVar 0) (dAc (dVar 3) (dAc (dVar 4) dA0)))))) dA0))) bNil)))) (bSeq (bRetO 1) bNil))))
def uRows : List Ar → R (Rs × List Sl) := runB 5 1 bRows
theorem rows_snoc {rows : List (List Int)} {r : List Int} (h : RowsOk rows) (hr : EldOk (rows.length : Int) r) : RowsOk (rows ++ [r]) := by
  intro k row hk
  by_cases hlt : k < rows.length
  · rw [List.getElem?_append_left hlt] at hk
    exact h k row hk
  · have : k = rows.length := by have := (List.getElem?_eq_some_iff.mp hk).1; simp at this; omega
    subst this
    simp at hk
    subst hk
    exact hr
theorem rows_q (f : Fd) : ∃ rows f', uRows [.c (.feed f)] = .val (.c (.lst (rows.map fun r => dL r)), [.io (.feed f')]) ∧ RowsOk rows ∧ 1 ≤ rows.length ∧ rows.length ≤ 40 := by
  have key : Ok (uRows [.c (.feed f)]) fun z => ∃ rows f', z = (.c (.lst (rows.map fun r => dL r)), [.io (.feed f')]) ∧ RowsOk rows ∧ 1 ≤ rows.length ∧ rows.length ≤ 40 := by
    refine ok_run rfl ?_
    unfold bRows
    apply w_setX
    · symm_saturate
    obtain ⟨w8, f1, h8, a8, b8⟩ := take_q f 8 (by decide) (by decide)
    apply w_set
    · apply_mod_cast h8
    obtain ⟨m, f2, hm, am, bm⟩ := take_q f1 40 (by decide) (by decide)
    refine w_for (y := ((rng 1 (1 + m)).map PyData.int, true)) (Γ1 := [.io (.feed f2), .own (.lst [dL []]), .dat true (.int w8), .un, .un])
      (fun i Γ => ∃ (rows : List (List Int)) (f' : Fd), rows.length = i + 1 ∧ RowsOk rows ∧ Γ = [.io (.feed f'), .own (.lst (rows.map fun r => dL r)), .dat true (.int w8), .un, .un]) ?_ ⟨[[]], f2, rfl, ?_, rfl⟩ ?_ ?_
    · refine i_range2 (fr := true) (fr2 := true) e_C ?_ (cRng_of (by decide) (by decide) (by omega) (by omega))
      apply e_add
      · exact e_C
      · apply_mod_cast hm
    · intro k row hk
      cases k with
      | zero => simp at hk; subst hk; simp
      | succ k => simp at hk
    · rintro i d Γ hd ⟨rows, f', hl, hR, rfl⟩
      obtain ⟨x, hx, rfl⟩ := gmap hd
      have hx2 : x = 1 + (i : Nat) ∧ (i : Int) < m := by
        unfold rng at hx
        obtain ⟨k, hk, rfl⟩ := gmap hx
        have hlt := (List.getElem?_eq_some_iff.mp hk).1
        rw [List.getElem?_range (by simpa using hlt)] at hk
        cases hk
        simp at hlt
        exact ⟨rfl, by omega⟩
      obtain ⟨rfl, hi⟩ := hx2
      refine ⟨_, rfl, ?_⟩
      apply w_set
      · exact e_frz (e_var rfl)
      have fin : ∀ (now : Int) (f3 : Fd), W (bSeq (bExpr (dLm 1 qAppend (dAc (dFrz (eX (xCallC uElders 0 [] (dAc (dVar 0) (dAc (dVar 3) (dAc (dVar 4) dA0)))))) dA0))) bNil) [.io (.feed f3), .own (.lst (rows.map fun r => dL r)), .dat true (.int w8), .dat true (.int (1 + (i : Nat))), .dat true (.int now)]
          (fun w Γ2 => match w with
            | .nx => ∃ (rows : List (List Int)) (f' : Fd), rows.length = i + 1 + 1 ∧ RowsOk rows ∧ wipeG Γ2 [3, 4] = [.io (.feed f'), .own (.lst (rows.map fun r => dL r)), .dat true (.int w8), .un, .un]
            | .ct => ∃ (rows : List (List Int)) (f' : Fd), rows.length = i + 1 + 1 ∧ RowsOk rows ∧ wipeG Γ2 [3, 4] = [.io (.feed f'), .own (.lst (rows.map fun r => dL r)), .dat true (.int w8), .un, .un]
            | .bk => W (bSeq (bRetO 1) bNil) (wipeG Γ2 [3, 4]) (fun w Γ => ∃ r Z, fwR w = some r ∧ cellsAt [.c (.feed f)] Γ = some Z ∧ ∃ rows f', (r, Z) = (Rs.c (.lst (rows.map fun r => dL r)), [.io (.feed f')]) ∧ RowsOk rows ∧ 1 ≤ rows.length ∧ rows.length ≤ 40)
            | .rt s => ∃ r Z, fwR (.rt s) = some r ∧ cellsAt [.c (.feed f)] Γ2 = some Z ∧ ∃ rows f', (r, Z) = (Rs.c (.lst (rows.map fun r => dL r)), [.io (.feed f')]) ∧ RowsOk rows ∧ 1 ≤ rows.length ∧ rows.length ≤ 40) := by
        intro now f3
        obtain ⟨r, f4, he, hE⟩ := elders_q f3 (1 + (i : Nat)) now (by omega) (by omega)
        apply w_expr
        · apply e_app
          · rfl
          · apply e_xc
            apply x_callE
            · symm_saturate
            · rfl
            · rfl
            · rfl
            · rfl
            · exact he
            · rfl
            · rfl
          · rfl
          · exact ltS_of (by rw [List.length_map]; omega)
        refine w_nil ⟨rows ++ [r], f4, by simp; omega, rows_snoc hR ?_, by rw [List.map_append]; rfl⟩
        have : ((rows.length : Nat) : Int) = 1 + (i : Nat) := by omega
        rw [this]
        exact hE
      apply w_if
      · symm_saturate
      · intro _
        obtain ⟨t, f3, ht, t0, t1⟩ := take_q f' 6 (by decide) (by decide)
        apply w_seqA
        apply w_set
        · apply_mod_cast ht
        apply w_seqN
        exact fin t f3
      · intro _
        apply w_seqN
        exact fin w8 f'
    · rintro Γ ⟨rows, f', hl, hR, rfl⟩
      rw [List.length_map, rng_len] at hl
      apply w_retO
      · rfl
      exact ⟨_, _, rfl, rfl, rows, f', rfl, hR, by omega, by omega⟩
  obtain ⟨z, e, rows, f', rfl, h⟩ := key
  exact ⟨rows, f', e, h⟩
theorem bitsFrom_fuel : ∀ {n m a x : Nat}, x < n → x < m → bitsFrom a n x = bitsFrom a m x
  | 0, _, _, _, h, _ => absurd h (by omega)
  | _, 0, _, _, _, h => absurd h (by omega)
  | n + 1, m + 1, a, x, h1, h2 => by
    unfold bitsFrom
    by_cases hx : x = 0
    · rw [if_pos hx, if_pos hx]
    · rw [if_neg hx, if_neg hx, bitsFrom_fuel (n := n) (m := m) (by omega) (by omega)]
/-! ## makes_in -/
def bMakesIn : DS := (bSeq (bSetX 1 (xC (nL (dLst dA0)))) (bSeq (bSet 2 (dC (.int 0))) (bSeq (bWhile [] (fun _ => 1000000) (dTst (dCmp (kI fun i j => decide (j < i)) (dVar 0) (dC (.int 0)))) (bSeq (bIf (dTst (dCmp kEq (dI kAnd (dVar 0) (dC (.int 1))) (dC (.int 1)))) (bSeq (bExpr (dLm 1 qAppend (dAc (dFrz (dVar 2)) dA0))) bNil) bNil) (bSeq (bSet 0 (dI kShr (dVar 0) (dC (.int 1)))) (bSeq (bInc 2 (dC (.int 1))) bNil)))) (bSeq (bRet (dB kTuple (dAc (dVar 1) dA0))) bNil))))
theorem makesIn_q (n : Nat) (mask : Nat) (hn : n ≤ 1000) (hm : mask < 2 ^ n) : runB 3 1 bMakesIn [.d (.int (mask : Nat))] = .val (.d (dT (bitsFrom 0 (mask + 1) mask)), [.un]) := by
  refine ok_eq (ok_run rfl ?_)
  unfold bMakesIn
  apply w_setX
  · symm_saturate
  apply w_set
  · symm_saturate
  refine w_while (fun k Γ => ∃ (x a : Nat) (fd : List Int), x < 2 ^ k ∧ k ≤ n ∧ fd.length + k ≤ n ∧ fd ++ bitsFrom a (x + 1) x = bitsFrom 0 (mask + 1) mask ∧ Γ = [.dat true (.int (x : Nat)), .own (.lst (fd.map PyData.int)), .dat true (.int (a : Nat))]) n (by omega) ⟨mask, 0, [], hm, by omega, by simp, by simp, rfl⟩ ?_
  rintro k Γ ⟨x, a, fd, h1, h2, h3, h4, rfl⟩
  refine ⟨decide ((0 : Int) < (x : Nat)), _, t_tst (e_cmp (e_var rfl) e_C k_I), fun hz => ?_, fun hz => ?_⟩
  · have hx : x ≠ 0 := by have := of_decide_eq_true hz; omega
    have hk : k ≠ 0 := fun e => by subst e; simp at h1; omega
    have e1 : bitsFrom a (x + 1) x = (if x % 2 = 1 then [(a : Int)] else []) ++ bitsFrom (a + 1) x (x / 2) := by
      conv => lhs; unfold bitsFrom
      rw [if_neg hx]
    have e2 : bitsFrom (a + 1) x (x / 2) = bitsFrom (a + 1) (x / 2 + 1) (x / 2) := bitsFrom_fuel (by omega) (by omega)
    have hand : Builtin.bitAnd ((x : Nat) : Int) 1 = ((x % 2 : Nat) : Int) := by
      rw [band_pos (by omega) (by decide)]
      simp [Nat.and_one_is_mod]
    have hdiv : ((x : Nat) : Int) / 2 ^ (1 : Int).toNat = ((x / 2 : Nat) : Int) := by simp
    have tl : ∀ fd2 : List Int, fd2 ++ bitsFrom (a + 1) (x / 2 + 1) (x / 2) = bitsFrom 0 (mask + 1) mask → fd2.length ≤ fd.length + 1 → W (bSeq (bSet 0 (dI kShr (dVar 0) (dC (.int 1)))) (bSeq (bInc 2 (dC (.int 1))) bNil)) [.dat true (.int (x : Nat)), .own (.lst (fd2.map PyData.int)), .dat true (.int (a : Nat))]
        (fun w Γ2 => match w with
          | .nx => ∃ m, m < k ∧ ∃ (x a : Nat) (fd : List Int), x < 2 ^ m ∧ m ≤ n ∧ fd.length + m ≤ n ∧ fd ++ bitsFrom a (x + 1) x = bitsFrom 0 (mask + 1) mask ∧ wipeG Γ2 [] = [.dat true (.int (x : Nat)), .own (.lst (fd.map PyData.int)), .dat true (.int (a : Nat))]
          | .ct => ∃ m, m < k ∧ ∃ (x a : Nat) (fd : List Int), x < 2 ^ m ∧ m ≤ n ∧ fd.length + m ≤ n ∧ fd ++ bitsFrom a (x + 1) x = bitsFrom 0 (mask + 1) mask ∧ wipeG Γ2 [] = [.dat true (.int (x : Nat)), .own (.lst (fd.map PyData.int)), .dat true (.int (a : Nat))]
          | .bk => W (bSeq (bRet (dB kTuple (dAc (dVar 1) dA0))) bNil) (wipeG Γ2 []) (fun w Γ => ∃ r Z, fwR w = some r ∧ cellsAt [.d (.int (mask : Nat))] Γ = some Z ∧ (r, Z) = (Rs.d (dT (bitsFrom 0 (mask + 1) mask)), [.un]))
          | .rt s => ∃ r Z, fwR (.rt s) = some r ∧ cellsAt [.d (.int (mask : Nat))] Γ2 = some Z ∧ (r, Z) = (Rs.d (dT (bitsFrom 0 (mask + 1) mask)), [.un])) := by
      intro fd2 hfd hlen
      apply w_set
      · apply e_I
        · exact e_var rfl
        · exact e_C
        · exact k_shr rfl
      apply w_inc
      · rfl
      · exact e_C
      obtain ⟨j, rfl⟩ : ∃ j, k = j + 1 := ⟨k - 1, by omega⟩
      refine w_nil ⟨j, by omega, x / 2, a + 1, fd2, by rw [Nat.pow_succ] at h1; omega, by omega, by omega, hfd, ?_⟩
      rw [hdiv]
      rfl
    apply w_if
    · apply t_tst
      apply e_cmp
      · apply e_I
        · exact e_var rfl
        · exact e_C
        · exact k_and
      · exact e_C
      · exact k_eqI
    · intro hz2
      have hz2 : x % 2 = 1 := by
        have := of_decide_eq_true hz2
        rw [hand] at this
        omega
      apply w_seqA
      apply w_expr
      · apply e_app
        · rfl
        · exact e_var rfl
        · rfl
        · exact ltS_of (by rw [List.length_map]; omega)
      apply w_seqN
      have := tl (fd ++ [(a : Int)]) (by rw [← h4, e1, if_pos hz2, e2, List.append_assoc]) (by simp)
      rw [List.map_append] at this
      exact this
    · intro hz2
      have hz2 : x % 2 ≠ 1 := by
        have := of_decide_eq_false hz2
        rw [hand] at this
        omega
      apply w_seqN
      exact tl fd (by rw [← h4, e1, if_neg hz2, e2]; rfl) (by omega)
  · have hx : x = 0 := by have := of_decide_eq_false hz; omega
    subst hx
    have : fd = bitsFrom 0 (mask + 1) mask := by rw [← h4]; simp [bitsFrom]
    subst this
    apply w_ret
    · apply e_B
      · symm_saturate
      · exact k_tup rfl
    exact ⟨_, _, rfl, rfl, rfl⟩
end PD


set_option linter.all false
set_option maxRecDepth 100000
set_option autoImplicit false
namespace PD
open PySem L2
theorem w_put {Γ Γ1 Γ2 : List Sl} {fe fi : DF} {r : DS} {m : Nat} {v kk : PyData} {fr : Bool} {c0 c : Bool × Cl} {c' : Cl} {P : Fw → List Sl → Prop} (h1 : dFrz fe Γ = .val (.d true v, Γ1)) (h2 : cellC Γ1 m = some c0) (h3 : fi Γ1 = .val (.d fr kk, Γ2)) (h4 : cellC Γ2 m = some c) (h5 : putC c.2 kk v = some c') (h : W r (Γ2.set m (mkS c.1 c')) P) : W (bSeq (bPut m fe fi) r) Γ P := w_one ⟨_, by
  unfold bPut
  rw [h1, bind_val, h2, ofO_some, bind_val, h3, bind_val, h4, ofO_some, bind_val]
  simp only [h5]
  rfl, h⟩
abbrev dB1 (bs : List Bool) : PyData := .list (bs.map PyData.bool)
theorem ixN_nat {n j : Nat} (h : j < n) : ixN n (j : Int) = some j := by
  unfold ixN
  rw [if_pos (by omega), if_pos (by omega)]
  simp
theorem at_nat {α : Type} {xs : List α} {f : α → PyData} {j : Nat} {x : α} (h : xs[j]? = some x) : atI (xs.map f) (j : Int) = some (f x) := atI_nat (by rw [List.getElem?_map, h]; rfl)
def bComings : DS := (bSeq (bSetX 1 (xC (nL (dLst dA0)))) (bSeq (bFor [2, 3, 4] (gN 2) (iRange1 (dB kLen (dAc (dVar 0) dA0))) (bSeq (bSetC 3 (nL (nComp [5] (gN 5) (iRange1 (dB kLen (dAc (dVar 0) dA0))) tYes (dFrz (dCmp kEq (dVar 5) (dVar 2)))))) (bSeq (bFor [4] (gN 4) (iSeq (dIxB (dVar 0) (dVar 2))) (bSeq (bFor [] (gN 5) (iRange1 (dAdd (dVar 4) (dC (.int 1)))) (bSeq (bPut 3 (dOr (dIxB (dVar 3) (dVar 5)) (dIxB (dIxB (dVar 1) (dVar 4)) (dVar 5))) (dVar 5)) bNil)) bNil)) (bSeq (bExpr (dLm 1 qAppend (dAc (dFrz (dVar 3)) dA0))) bNil)))) (bSeq (bRetO 1) bNil)))
def Reach (net : List (List Int)) (rs : List (List Bool)) : Prop := rs.length = net.length ∧ ∀ (i : Nat) (row : List Bool), rs[i]? = some row → RowOk net.length row (Anc net i)
theorem comings_q (rows : List (List Int)) (hR : RowsOk rows) (hl : rows.length ≤ 1000) : ∃ rs, Reach (netR rows) rs ∧ runB 6 1 bComings [.d (dLL rows)] = .val (.c (.lst (rs.map fun r => dB1 r)), [.un]) := by
  have hnl : (netR rows).length = rows.length := by unfold netR; simp
  have hN := net_ok hR
  have key : Ok (runB 6 1 bComings [.d (dLL rows)]) fun z => ∃ rs, Reach (netR rows) rs ∧ z = (.c (.lst (rs.map fun r => dB1 r)), [.un]) := by
    refine ok_run rfl ?_
    unfold bComings
    apply w_setX
    · symm_saturate
    have hlen : ∀ s1 s2 s3 s4 s5, dB kLen (dAc (dVar 0) dA0) [.dat false (dLL rows), s1, s2, s3, s4, s5] = .val (.d true (.int (rows.length : Nat)), [.dat false (dLL rows), s1, s2, s3, s4, s5]) := fun s1 s2 s3 s4 s5 => by
      have := e_B (Γ := [.dat false (dLL rows), s1, s2, s3, s4, s5]) (q := kLen) (a_cons (e_var (m := 0) rfl) a_nil) (k_lenL (ds := rows.map fun r => dL r) rfl)
      rw [List.length_map] at this
      exact this
    refine w_for (y := ((rng 0 (rows.length : Nat)).map PyData.int, true)) (Γ1 := [.dat false (dLL rows), .own (.lst []), .un, .un, .un, .un])
      (fun i Γ => ∃ (rs : List (List Bool)) (s5 : Sl), rs.length = i ∧ (∀ (k : Nat) (row : List Bool), rs[k]? = some row → RowOk (netR rows).length row (Anc (netR rows) k)) ∧ Γ = [.dat false (dLL rows), .own (.lst (rs.map fun r => dB1 r)), .un, .un, .un, s5]) ?_ ⟨[], .un, rfl, by simp, rfl⟩ ?_ ?_
    · exact i_range1 (fr := true) (hlen _ _ _ _ _) (cRng_of (by decide) (by decide) (by omega) (by omega))
    · rintro i d Γ hd ⟨rs, s5, hrl, hrs, rfl⟩
      obtain ⟨x, hx, rfl⟩ := gmap hd
      obtain ⟨rfl, hi⟩ := rng_at hx
      have hi : i < rows.length := by omega
      obtain ⟨row, hrow⟩ : ∃ row, rows[i]? = some row := ⟨_, List.getElem?_eq_getElem hi⟩
      have hnrow : (netR rows)[i]? = some (sortI row) := by unfold netR; rw [List.getElem?_map, hrow]; rfl
      obtain ⟨r1, r2, r3⟩ := hR i row hrow
      refine ⟨_, rfl, ?_⟩
      apply w_setC
      · apply c_l
        refine n_comp (enc := PyData.int) (rng 0 (rows.length : Nat)) (fun _ => true) (fun x => .bool (decide (x = (i : Int)))) (fr := true) (Γ0 := [.dat false (dLL rows), .own (.lst (rs.map fun r => dB1 r)), .dat true (.int (i : Nat)), .un, .un, .un]) (i_range1 (fr := true) (hlen _ _ _ _ _) (cRng_of (by decide) (by decide) (by omega) (by omega))) (by rw [rng_len]; omega) rfl fun x hx => ⟨_, rfl, rfl, rfl, fun _ => ?_⟩
        apply e_frz
        apply e_cmp
        · exact e_var rfl
        · exact e_var rfl
        · exact k_eqI
      have hown : ((rng 0 (rows.length : Nat)).filter fun _ => true).map (fun x => PyData.bool (decide (x = (i : Int)))) = ((rng 0 (rows.length : Nat)).map fun x => decide (x = (i : Int))).map PyData.bool := by
        have : ((rng 0 (rows.length : Nat)).filter fun _ => true) = rng 0 (rows.length : Nat) := List.filter_eq_self.mpr fun _ _ => rfl
        rw [this, List.map_map]
        rfl
      rw [hown]
      have hok0 : RowOk (netR rows).length ((rng 0 (rows.length : Nat)).map fun x => decide (x = (i : Int))) (fun j => j = i) := by
        refine ⟨by rw [List.length_map, rng_len, hnl]; omega, fun j b hj => ?_⟩
        obtain ⟨x, hx, rfl⟩ := gmap hj
        obtain ⟨rfl, _⟩ := rng_at hx
        rw [decide_eq_true_iff]
        omega
      generalize ((rng 0 (rows.length : Nat)).map fun x => decide (x = (i : Int))) = own0 at hok0
      refine w_for (y := (row.map PyData.int, false)) (Γ1 := [.dat false (dLL rows), .own (.lst (rs.map fun r => dB1 r)), .dat true (.int (i : Nat)), .own (.lst (own0.map PyData.bool)), .un, .un])
        (fun k Γ => ∃ (ob : List Bool) (s5 : Sl), RowOk (netR rows).length ob (fun j => j = i ∨ ∃ m : Nat, (m : Int) ∈ row.take k ∧ Anc (netR rows) m j) ∧ Γ = [.dat false (dLL rows), .own (.lst (rs.map fun r => dB1 r)), .dat true (.int (i : Nat)), .own (.lst (ob.map PyData.bool)), .un, s5]) ?_ ⟨own0, .un, hok0.iff fun j => by simp, rfl⟩ ?_ ?_
      · apply i_seqL
        apply e_ixL
        · exact e_var rfl
        · exact e_var rfl
        · exact at_nat hrow
      · rintro k d Γ hd ⟨ob, s5', hob, rfl⟩
        obtain ⟨y, hy, rfl⟩ := gmap hd
        obtain ⟨y0, y1⟩ := r1 y (mem_at hy)
        obtain ⟨e, rfl⟩ : ∃ e : Nat, y = (e : Int) := ⟨y.toNat, by omega⟩
        obtain ⟨fe, hfe⟩ : ∃ fe, rs[e]? = some fe := ⟨_, List.getElem?_eq_getElem (by omega)⟩
        have hfeo := hrs e fe hfe
        refine ⟨_, rfl, ?_⟩
        refine w_for (y := ((rng 0 ((e : Int) + 1)).map PyData.int, true)) (Γ1 := [.dat false (dLL rows), .own (.lst (rs.map fun r => dB1 r)), .dat true (.int (i : Nat)), .own (.lst (ob.map PyData.bool)), .dat false (.int (e : Int)), s5'])
          (fun q Γ => ∃ (ob2 : List Bool) (s5 : Sl), RowOk (netR rows).length ob2 (fun j => (j = i ∨ ∃ m : Nat, (m : Int) ∈ row.take k ∧ Anc (netR rows) m j) ∨ (j < q ∧ Anc (netR rows) e j)) ∧ Γ = [.dat false (dLL rows), .own (.lst (rs.map fun r => dB1 r)), .dat true (.int (i : Nat)), .own (.lst (ob2.map PyData.bool)), .dat false (.int (e : Int)), s5]) ?_ ⟨ob, s5', hob.iff fun j => by simp, rfl⟩ ?_ ?_
        · refine i_range1 (fr := true) ?_ (cRng_of (by decide) (by decide) (by omega) (by omega))
          apply e_add
          · exact e_var rfl
          · exact e_C
        · rintro q d Γ hd ⟨ob2, s5'', hob2, rfl⟩
          obtain ⟨z, hz, rfl⟩ := gmap hd
          obtain ⟨rfl, hq⟩ := rng_at hz
          have hqn : q < (netR rows).length := by omega
          obtain ⟨b1, hb1, hb1'⟩ := hob2.at hqn
          obtain ⟨b2, hb2, hb2'⟩ := hfeo.at hqn
          refine ⟨_, rfl, ?_⟩
          apply w_put
          · apply e_frz
            apply e_or
            · apply e_ixS
              · exact e_varO rfl
              · exact e_var rfl
              · rfl
              · exact at_nat hb1
            · intro _
              apply e_ixL
              · apply e_ixS
                · exact e_varO rfl
                · exact e_var rfl
                · rfl
                · exact at_nat hfe
              · exact e_var rfl
              · exact at_nat hb2
          · rfl
          · exact e_var rfl
          · rfl
          · show (ixN (ob2.map PyData.bool).length (q : Int)).map _ = _
            rw [ixN_nat (by rw [List.length_map, hob2.1]; exact hqn)]
            rfl
          refine w_nil ⟨ob2.set q (b1 || b2), _, ⟨by rw [List.length_set]; exact hob2.1, fun j b hj => ?_⟩, by rw [List.map_set]; rfl⟩
          by_cases hjq : j = q
          · subst hjq
            rw [List.getElem?_set_self (by rw [hob2.1]; exact hqn)] at hj
            cases hj
            rw [Bool.or_eq_true, hb1', hb2']
            constructor
            · rintro ((z | z) | z)
              · exact .inl z
              · omega
              · exact .inr ⟨by omega, z⟩
            · rintro (z | z)
              · exact .inl (.inl z)
              · exact .inr z.2
          · rw [List.getElem?_set_ne (Ne.symm hjq)] at hj
            rw [hob2.2 j b hj]
            constructor
            · rintro (z | z)
              · exact .inl z
              · exact .inr ⟨by omega, z.2⟩
            · rintro (z | z)
              · exact .inl z
              · exact .inr ⟨by omega, z.2⟩
        · rintro Γ ⟨ob2, s5'', hob2, rfl⟩
          refine w_nil ⟨ob2, _, hob2.iff fun j => ?_, rfl⟩
          have hq : ((rng 0 ((e : Int) + 1)).map PyData.int).length = e + 1 := by rw [List.length_map, rng_len]; omega
          show ((j = i ∨ ∃ m : Nat, (m : Int) ∈ row.take k ∧ Anc (netR rows) m j) ∨ (j < ((rng 0 ((e : Int) + 1)).map PyData.int).length ∧ Anc (netR rows) e j)) ↔ _
          rw [hq, take_step hy]
          constructor
          · rintro ((z | ⟨m, m1, m2⟩) | z)
            · exact .inl z
            · exact .inr ⟨m, by simp [m1], m2⟩
            · exact .inr ⟨e, by simp, z.2⟩
          · rintro (z | ⟨m, m1, m2⟩)
            · exact .inl (.inl z)
            · rcases List.mem_append.mp m1 with u | u
              · exact .inl (.inr ⟨m, u, m2⟩)
              · have : m = e := by simp at u; omega
                subst this
                exact .inr ⟨by have := anc_le hN m2; omega, m2⟩
      · rintro Γ ⟨ob, s5', hob, rfl⟩
        have hob : RowOk (netR rows).length ob (Anc (netR rows) i) := hob.iff fun j => by
          show (j = i ∨ ∃ m : Nat, (m : Int) ∈ row.take (row.map PyData.int).length ∧ Anc (netR rows) m j) ↔ _
          rw [List.length_map, List.take_length, anc_iff hnrow]
          simp only [sortI_mem]
        apply w_one
        refine ⟨[.dat false (dLL rows), .own (.lst ((rs ++ [ob]).map fun r => dB1 r)), .dat true (.int (i : Nat)), .dat true (dB1 ob), .un, s5'], ?_, w_nil ⟨rs ++ [ob], s5', by simp; omega, fun k c z => ?_, rfl⟩⟩
        · have hls : ltS (rs.map fun r => dB1 r) = true := ltS_of (by rw [List.length_map]; omega)
          rw [List.map_append]
          unfold bExpr dLm
          show ((R.ofO (some (false, rs.map fun r => dB1 r))).bind fun _ => _).bind _ = _
          rw [ofO_some, bind_val, a_cons (e_frzO (ds := ob.map PyData.bool) (e_varO rfl) rfl) a_nil, bind_val]
          show (((R.ofO (some (false, rs.map fun r => dB1 r))).bind fun _ => _)).bind _ = _
          rw [ofO_some, bind_val]
          show ((qAppend (rs.map fun r => dB1 r) [.d true (dB1 ob)]).bind _).bind _ = _
          unfold qAppend
          simp only [hls]
          rfl
        · by_cases hk : k < rs.length
          · rw [List.getElem?_append_left hk] at z
            exact hrs k c z
          · have hk2 : k = rs.length := by
              have := (List.getElem?_eq_some_iff.mp z).1
              simp at this
              omega
            subst hk2
            simp at z
            subst z
            rw [hrl]
            exact hob
    · rintro Γ ⟨rs, s5, hrl, hrs, rfl⟩
      rw [List.length_map, rng_len] at hrl
      apply w_retO
      · rfl
      exact ⟨_, _, rfl, rfl, rs, ⟨by omega, hrs⟩, rfl⟩
  obtain ⟨z, e, rs, h, rfl⟩ := key
  exact ⟨rs, h, e⟩
end PD


set_option linter.all false
set_option maxRecDepth 100000
set_option autoImplicit false
namespace PD
open PySem L2
/-! ## halving plans of any net -/
theorem BestAt.uniq {L L' : Nat → Int} {barred : List Int} {n : Nat} {b b' : Option Int} {m m' : Int} (hL : ∀ k, k < n → L k = L' k) (h : BestAt L barred n b m) (h' : BestAt L' barred n b' m') : b = b' ∧ m = m' := by
  cases b with
  | none =>
    cases b' with
    | none => exact ⟨rfl, by rw [h.1, h'.1]⟩
    | some x =>
      obtain ⟨j, e1, e2, e3, e4, e5, _⟩ := h'
      have := h.2 j e2 e3
      rw [hL j e2] at this
      omega
  | some x =>
    obtain ⟨j, e1, e2, e3, e4, e5, e6, e7⟩ := h
    cases b' with
    | none =>
      have := h'.2 j e2 e3
      rw [← hL j e2] at this
      omega
    | some y =>
      obtain ⟨i, d1, d2, d3, d4, d5, d6, d7⟩ := h'
      have hij : i = j := by
        rcases Nat.lt_trichotomy i j with q | q | q
        · have a := e7 i q d3
          have b := d6 j e2 e3
          rw [hL i d2, hL j e2] at a
          omega
        · exact q
        · have a := d7 j q e3
          have b := e6 i d2 d3
          rw [hL i d2, hL j e2] at b
          omega
      subst hij
      exact ⟨by rw [e1, d1], by rw [e4, d4, hL i e2]⟩
def uEvenest : List Ar → R (Rs × List Sl) := runB 7 3 bEvenest
theorem evn_ex (bs ms barred : List Int) : ∃ best : Option Int, bs.length ≤ 1000 → (∀ x ∈ ms, 0 ≤ x) → ms.length ≤ 1000 → (∃ most, BestAt (lesAt bs ms) barred bs.length best most) ∧ uEvenest [.d (dL bs), .d (dT ms), .d (dL barred)] = .val (.d (optI best), [.un, .un, .un]) := by
  by_cases h : bs.length ≤ 1000 ∧ (∀ x ∈ ms, 0 ≤ x) ∧ ms.length ≤ 1000
  · obtain ⟨best, most, hB, e⟩ := evenest_u bs ms barred (by omega) h.2.1 (by omega)
    exact ⟨best, fun _ _ _ => ⟨⟨most, hB⟩, e⟩⟩
  · exact ⟨none, fun h1 h2 h3 => absurd ⟨h1, h2, h3⟩ h⟩
noncomputable def evn (bs ms barred : List Int) : Option Int := Classical.choose (evn_ex bs ms barred)
theorem evn_ok (bs ms barred : List Int) (hb : bs.length ≤ 1000) (hms : ∀ x ∈ ms, 0 ≤ x) (hl : ms.length ≤ 1000) :
    (∃ most, BestAt (lesAt bs ms) barred bs.length (evn bs ms barred) most) ∧ uEvenest [.d (dL bs), .d (dT ms), .d (dL barred)] = .val (.d (optI (evn bs ms barred)), [.un, .un, .un]) := Classical.choose_spec (evn_ex bs ms barred) hb hms hl
def bPlanBy : Nat → DS
  | 0 => bBad
  | n + 1 => (bSeq (bSet 3 (eX (xCall uEvenest [] (dAc (dVar 0) (dAc (dVar 1) (dAc (dVar 2) dA0)))))) (bSeq (bIf (dTst (dCmp kIs (dVar 3) (dC .none))) (bSeq (bRet (dTup (dAc (dC (.str "left")) (dAc (dFrz (dVar 1)) dA0)))) bNil) bNil) (bSeq (bSet 4 (dB kTuple (dAc (dOfN (nComp [6] (gN 6) (iSeq (dVar 1)) (dTst (eX (xCall uIsIn [] (dAc (dIxB (dVar 0) (dVar 3)) (dAc (dVar 6) dA0))))) (dFrz (dVar 6)))) dA0))) (bSeq (bSet 5 (dB kTuple (dAc (dOfN (nComp [6] (gN 6) (iSeq (dVar 1)) (dTnot (dTst (eX (xCall uIsIn [] (dAc (dIxB (dVar 0) (dVar 3)) (dAc (dVar 6) dA0)))))) (dFrz (dVar 6)))) dA0))) (bSeq (bRet (dTup (dAc (dC (.str "try")) (dAc (dFrz (dVar 3)) (dAc (eX (xCall (runB 7 3 (bPlanBy n)) [] (dAc (dVar 0) (dAc (dVar 4) (dAc (dVar 2) dA0))))) (dAc (eX (xCall (runB 7 3 (bPlanBy n)) [] (dAc (dVar 0) (dAc (dVar 5) (dAc (dVar 2) dA0))))) dA0)))))) bNil)))))
def sideT (bs ms : List Int) (m : Int) : List Int := ms.filter (inb (bs[m.toNat]?.getD 0))
def sideF (bs ms : List Int) (m : Int) : List Int := ms.filter (fun x => !inb (bs[m.toNat]?.getD 0) x)
noncomputable def planT (bs barred : List Int) : Nat → List Int → PyData
  | 0, _ => .none
  | f + 1, ms => match evn bs ms barred with
    | none => .tuple [.str "left", dT ms]
    | some m => .tuple [.str "try", .int m, planT bs barred f (sideT bs ms m), planT bs barred f (sideF bs ms m)]
theorem filt_sum (p : Int → Bool) : ∀ ms : List Int, (ms.filter p).length + (ms.filter fun x => !p x).length = ms.length
  | [] => rfl
  | x :: ms => by
    have := filt_sum p ms
    cases h : p x <;> simp [h] <;> omega
theorem side_lt {bs ms barred : List Int} {m : Int} {most : Int} (h : BestAt (lesAt bs ms) barred bs.length (some m) most) : 0 ≤ m ∧ m.toNat < bs.length ∧ m ∉ barred ∧ (sideT bs ms m).length < ms.length ∧ (sideF bs ms m).length < ms.length ∧ (sideT bs ms m).length + (sideF bs ms m).length = ms.length := by
  obtain ⟨j, rfl, e2, e3, e4, e5, _⟩ := h
  unfold lesAt lesr at e5
  unfold sideT sideF
  simp only [Int.toNat_natCast]
  have hsum : (ms.filter (inb (bs[j]?.getD 0))).length + (ms.filter fun x => !inb (bs[j]?.getD 0) x).length = ms.length := by
    exact filt_sum _ ms
  unfold min2 at e5
  refine ⟨by omega, e2, e3, ?_, ?_, hsum⟩
  · split at e5 <;> omega
  · split at e5 <;> omega
theorem planBy_u (bs barred : List Int) (hb : bs.length ≤ 1000) : ∀ (f : Nat) (ms : List Int), ms.length < f → ms.length ≤ 1000 → (∀ x ∈ ms, 0 ≤ x) → runB 7 3 (bPlanBy f) [.d (dL bs), .d (dT ms), .d (dL barred)] = .val (.d (planT bs barred f ms), [.un, .un, .un])
  | 0, ms, hf, _, _ => by omega
  | f + 1, ms, hf, hl, hms => by
    obtain ⟨⟨most, hB⟩, hE⟩ := evn_ok bs ms barred hb hms hl
    refine ok_eq (ok_run rfl ?_)
    unfold bPlanBy planT
    apply w_set
    · apply e_xd
      apply x_call
      · symm_saturate
      · rfl
      · exact hE
    cases hbest : evn bs ms barred with
    | none =>
      apply w_if
      · apply t_tst
        apply e_cmp
        · exact e_var rfl
        · exact e_C
        · exact k_is rfl
      · intro _
        apply w_seqA
        apply w_ret
        · apply e_tup
          · apply a_cons
            · exact e_C
            · apply a_cons
              · exact e_frzT (e_var rfl) (flat_dT _)
              · exact a_nil
          · rfl
          · rfl
        exact ⟨_, _, rfl, rfl, rfl⟩
      · intro hz; cases hz
    | some m =>
      rw [hbest] at hB
      obtain ⟨m0, m1, m2, s1, s2, _⟩ := side_lt hB
      obtain ⟨b, hbm⟩ : ∃ b, bs[m.toNat]? = some b := ⟨_, List.getElem?_eq_getElem m1⟩
      have eT : sideT bs ms m = ms.filter (inb b) := by unfold sideT; rw [hbm]; rfl
      have eF : sideF bs ms m = ms.filter (fun x => !inb b x) := by unfold sideF; rw [hbm]; rfl
      apply w_if
      · apply t_tst
        apply e_cmp
        · exact e_var rfl
        · exact e_C
        · exact k_is rfl
      · intro hz; cases hz
      intro _
      apply w_seqN
      apply w_set
      · apply e_B
        · apply a_cons
          · apply e_ofN
            refine n_comp (enc := PyData.int) ms (inb b) PyData.int (fr := false) (i_seqT (e_var rfl)) (by omega) rfl fun x hx => ⟨_, rfl, rfl, ?_, fun _ => e_frzT (e_var rfl) rfl⟩
            apply t_tst
            apply e_xd
            apply x_call
            · apply a_cons
              · apply e_ixL
                · exact e_var rfl
                · exact e_var rfl
                · exact at_int m0 hbm
              · symm_saturate
            · rfl
            · exact isIn_u b x (hms x hx)
          · exact a_nil
        · exact k_tup rfl
      apply w_set
      · apply e_B
        · apply a_cons
          · apply e_ofN
            refine n_comp (enc := PyData.int) ms (fun x => !inb b x) PyData.int (fr := false) (i_seqT (e_var rfl)) (by omega) rfl fun x hx => ⟨_, rfl, rfl, ?_, fun _ => e_frzT (e_var rfl) rfl⟩
            apply t_not
            apply t_tst
            apply e_xd
            apply x_call
            · apply a_cons
              · apply e_ixL
                · exact e_var rfl
                · exact e_var rfl
                · exact at_int m0 hbm
              · symm_saturate
            · rfl
            · exact isIn_u b x (hms x hx)
          · exact a_nil
        · exact k_tup rfl
      rw [← eT, ← eF]
      apply w_ret
      · apply e_tup
        · apply a_cons
          · exact e_C
          · apply a_cons
            · exact e_frz (e_var rfl)
            · apply a_cons
              · apply e_xd
                apply x_call
                · symm_saturate
                · rfl
                · exact planBy_u bs barred hb f (sideT bs ms m) (by omega) (by omega) (fun x hx => hms x (by unfold sideT at hx; exact (List.mem_filter.mp hx).1))
              · apply a_cons
                · apply e_xd
                  apply x_call
                  · symm_saturate
                  · rfl
                  · exact planBy_u bs barred hb f (sideF bs ms m) (by omega) (by omega) (fun x hx => hms x (by unfold sideF at hx; exact (List.mem_filter.mp hx).1))
                · exact a_nil
        · rfl
        · rfl
      exact ⟨_, _, rfl, rfl, rfl⟩
end PD


set_option linter.all false
set_option maxRecDepth 100000
set_option autoImplicit false
namespace PD
open PySem L2
theorem i_zipX {Γ Γ1 Γ2 : List Sl} {f g : DF} {a b : AV} {ds es : List PyData} {f1 f2 : Bool} (h1 : f Γ = .val (a, Γ1)) (h2 : g Γ1 = .val (b, Γ2)) (h3 : seqA a = some (ds, f1)) (h4 : seqA b = some (es, f2)) : iZipX f g Γ = .val ((zipD ds es, f1 && f2), Γ2) := by
  unfold iZipX
  rw [h1, bind_val, h2, bind_val, h3, ofO_some, bind_val, h4]
  rfl
/-! ## is_net -/
def bIsNet : DS := (bSeq (bIf (dTor (dTnot (dTst (dIsi [.tuple] (dVar 0)))) (dTst (dCmp kNe (dB kLen (dAc (dVar 0) dA0)) (dB kLen (dAc (dVar 1) dA0))))) (bSeq (bRet (dC (.bool false))) bNil) bNil) (bSeq (bFor [2, 3, 4, 5] (gT2 (gN 2) (gN 3)) (iZipX (dVar 0) (dVar 1)) (bSeq (bIf (dTor (dTnot (dTst (dIsi [.tuple] (dVar 2)))) (dTst (dCmp kNe (dB kLen (dAc (dVar 2) dA0)) (dB kLen (dAc (dVar 3) dA0))))) (bSeq (bRet (dC (.bool false))) bNil) bNil) (bSeq (bFor [4, 5] (gT2 (gN 4) (gN 5)) (iEnum (dOfN (dBN kSorted (dAc (dVar 3) dA0)))) (bSeq (bIf (dTor (dTnot (dTst (dIsi [.int] (dIxB (dVar 2) (dVar 4))))) (dTor (dTst (dIsi [.bool] (dIxB (dVar 2) (dVar 4)))) (dTst (dCmp kNe (dIxB (dVar 2) (dVar 4)) (dVar 5))))) (bSeq (bRet (dC (.bool false))) bNil) bNil) bNil)) bNil))) (bSeq (bRet (dC (.bool true))) bNil)))
theorem isNet_q (rows : List (List Int)) : runB 6 2 bIsNet [.d (dTT (netR rows)), .d (dLL rows)] = .val (.d (.bool true), [.un, .un]) := by
  refine ok_eq (ok_run rfl ?_)
  unfold bIsNet
  apply w_if
  · apply t_or
    · apply t_not
      apply t_tst
      apply e_isi
      · exact e_var rfl
      · rfl
      · rfl
    · intro _
      apply t_tst
      apply e_cmp
      · apply e_B
        · symm_saturate
        · exact k_lenT rfl
      · apply e_B
        · symm_saturate
        · exact k_lenL rfl
      · exact k_neI
  · intro hz
    simp [tyIs, netR] at hz
  intro _
  apply w_seqN
  refine w_for (y := (zipD ((netR rows).map fun r => dT r) (rows.map fun r => dL r), false)) (Γ1 := [.dat false (dTT (netR rows)), .dat false (dLL rows), .un, .un, .un, .un]) (fun _ Γ => Γ = [.dat false (dTT (netR rows)), .dat false (dLL rows), .un, .un, .un, .un]) ?_ rfl ?_ ?_
  · exact i_zipX (f1 := false) (f2 := false) (e_var rfl) (e_var rfl) rfl rfl
  · rintro i d Γ hd rfl
    have hx : ∃ r : List Int, d = .tuple [dT (sortI r), dL r] := by
      have hd : (zipD ((netR rows).map fun r => dT r) (rows.map fun r => dL r))[i]? = some d := hd
      unfold zipD netR at hd
      rw [List.getElem?_zipWith, List.getElem?_map, List.getElem?_map, List.getElem?_map] at hd
      cases h : rows[i]? with
      | none => rw [h] at hd; cases hd
      | some r => rw [h] at hd; cases hd; exact ⟨r, rfl⟩
    obtain ⟨r, rfl⟩ := hx
    have hsl : (sortI r).length = r.length := (sortI_perm r).length_eq
    refine ⟨_, rfl, ?_⟩
    apply w_if
    · apply t_or
      · apply t_not
        apply t_tst
        apply e_isi
        · exact e_var rfl
        · rfl
        · rfl
      · intro _
        apply t_tst
        apply e_cmp
        · apply e_B
          · symm_saturate
          · exact k_lenT rfl
        · apply e_B
          · symm_saturate
          · exact k_lenL rfl
        · exact k_neI
    · intro hz
      simp [tyIs, hsl] at hz
    intro _
    apply w_seqN
    refine w_for (y := (enumD ((sortI r).map PyData.int), true)) (Γ1 := [.dat false (dTT (netR rows)), .dat false (dLL rows), .dat false (dT (sortI r)), .dat false (dL r), .un, .un]) (fun _ Γ => Γ = [.dat false (dTT (netR rows)), .dat false (dLL rows), .dat false (dT (sortI r)), .dat false (dL r), .un, .un]) ?_ rfl ?_ ?_
    · apply i_enumL
      apply e_ofN
      apply n_B
      · symm_saturate
      · exact k_sorted (intsOf_map r)
    · rintro k d Γ hd rfl
      obtain ⟨y, hy, rfl⟩ := enumD_at hd
      obtain ⟨x, hx, rfl⟩ := gmap hy
      refine ⟨_, rfl, ?_⟩
      have ix : ∀ s4 s5 : Sl, s4 = .dat true (.int (k : Nat)) → dIxB (dVar 2) (dVar 4) [.dat false (dTT (netR rows)), .dat false (dLL rows), .dat false (dT (sortI r)), .dat false (dL r), s4, s5] = .val (.d false (.int x), [.dat false (dTT (netR rows)), .dat false (dLL rows), .dat false (dT (sortI r)), .dat false (dL r), s4, s5]) := fun s4 s5 e => by
        subst e
        exact e_ixT (e_var rfl) (e_var rfl) (at_nat hx)
      apply w_if
      · apply t_or
        · apply t_not
          apply t_tst
          apply e_isi
          · exact ix _ _ rfl
          · rfl
          · rfl
        · intro _
          apply t_or
          · apply t_tst
            apply e_isi
            · exact ix _ _ rfl
            · rfl
            · rfl
          · intro _
            apply t_tst
            apply e_cmp
            · exact ix _ _ rfl
            · exact e_var rfl
            · exact k_neI
      · intro hz
        simp [tyIs] at hz
      · intro _
        apply w_seqN
        exact w_nil rfl
    · rintro Γ rfl
      exact w_nil rfl
  · rintro Γ rfl
    apply w_ret
    · exact e_C
    exact ⟨_, _, rfl, rfl, rfl⟩
end PD


set_option linter.all false
set_option autoImplicit false
namespace PD
open PySem L2
def uFeed : List Ar → R (Rs × List Sl) := runB 1 1 bFeed
def uComings : List Ar → R (Rs × List Sl) := runB 6 1 bComings
def uBitsOf : List Ar → R (Rs × List Sl) := runB 6 1 bBitsOf
def uMakesIn : List Ar → R (Rs × List Sl) := runB 3 1 bMakesIn
def uIsNet : List Ar → R (Rs × List Sl) := runB 6 2 bIsNet
def uNetOf : List Ar → R (Rs × List Sl) := runB 4 1 bNetOf
def uPlanBy (n : Nat) : List Ar → R (Rs × List Sl) := runB 7 3 (bPlanBy n)
end PD


set_option linter.all false
set_option maxRecDepth 100000
set_option autoImplicit false
/-! plain: shorter steps -/
namespace PD
open PySem L2
section
variable {Γ Γ1 Γ2 Γ3 : List Sl} {f g h : DF} {k : DA} {n : DN} {c : DC} {x : DX} {t t2 : DT} {fr fr2 z z2 : Bool} {d : PyData} {i j : Int} {ds es : List PyData} {a b : AV} {as : List AV} {P : Fw → List Sl → Prop} {r : DS} {m : Nat}
theorem e_x {s : Rs} (h1 : x Γ = .val (s, Γ1)) (h2 : rsF s = some d) : eX x Γ = .val (.d true d, Γ1) := by
  cases s with
  | d y => cases h2; exact e_xd h1
  | c y =>
    have h2 : frzC y = some d := h2
    unfold eX; rw [h1, bind_val]
    show ((R.ofO (frzC y)).bind fun e => R.val (AV.d true e, Γ1)) = _
    rw [h2]; rfl
theorem w_ifN {b c2 : DS} (h1 : t Γ = .val (z, Γ1)) (hz : z = false) (h : W (bSeq c2 r) Γ1 P) : W (bSeq (bIf t b c2) r) Γ P := w_if h1 (fun e => by rw [hz] at e; cases e) fun _ => h
theorem w_ifY {b c2 : DS} (h1 : t Γ = .val (z, Γ1)) (hz : z = true) (h : W (bSeq b r) Γ1 P) : W (bSeq (bIf t b c2) r) Γ P := w_if h1 (fun _ => h) (fun e => by rw [hz] at e; cases e)
/-- one step, whatever it is -/
theorem w_ifB {b c2 : DS} (h1 : t Γ = .val (z, Γ1)) (hT : z = true → W (bSeq b r) Γ1 P) (hF : z = false → W (bSeq c2 r) Γ1 P) : W (bSeq (bIf t b c2) r) Γ P := w_if h1 hT hF
/-- both ways meet -/
theorem w_ifJ {b c2 : DS} {S : Type} (Rel : S → Prop) (sh : S → List Sl) (h1 : t Γ = .val (z, Γ1)) (hT : z = true → W b Γ1 fun w Γ2 => match w with
      | .nx => ∃ s, Γ2 = sh s ∧ Rel s
      | w => P w Γ2) (hF : z = false → W c2 Γ1 fun w Γ2 => match w with
      | .nx => ∃ s, Γ2 = sh s ∧ Rel s
      | w => P w Γ2) (h : ∀ s, Rel s → W r (sh s) P) : W (bSeq (bIf t b c2) r) Γ P := by
  refine w_if h1 (fun e => w_seq ((hT e).mono fun z hz => ?_)) (fun e => w_seq ((hF e).mono fun z hz => ?_))
  · obtain ⟨w, Γ2⟩ := z
    cases w with
    | nx => obtain ⟨s, h2, h3⟩ := hz; have h2 : Γ2 = sh s := h2; subst h2; exact h s h3
    | bk => exact hz
    | ct => exact hz
    | rt q => exact hz
  · obtain ⟨w, Γ2⟩ := z
    cases w with
    | nx => obtain ⟨s, h2, h3⟩ := hz; have h2 : Γ2 = sh s := h2; subst h2; exact h s h3
    | bk => exact hz
    | ct => exact hz
    | rt q => exact hz
/-- a for over a list -/
theorem w_forL {α : Type} {enc : α → PyData} {is : List Nat} {gg : DG} {it : DI} {b : DS} (xs : List α) {S : Type} (Rel : Nat → S → Prop) (sh : S → List Sl) (s0 : S) (h1 : it Γ = .val ((xs.map enc, fr), Γ1)) (h0 : wipeG Γ1 is = sh s0) (hr : Rel 0 s0)
    (hb : ∀ (i : Nat) (x : α) (s : S), xs[i]? = some x → Rel i s → ∃ Γ1, gg fr (enc x) (sh s) = some Γ1 ∧ W b Γ1 fun w Γ2 => match w with
      | .nx => ∃ s', wipeG Γ2 is = sh s' ∧ Rel (i + 1) s'
      | .ct => ∃ s', wipeG Γ2 is = sh s' ∧ Rel (i + 1) s'
      | .bk => W r (wipeG Γ2 is) P
      | .rt q => P (.rt q) Γ2) (hd : ∀ s, Rel xs.length s → W r (sh s) P) : W (bSeq (bFor is gg it b) r) Γ P := by
  refine w_for (fun i Γ => ∃ s, Γ = sh s ∧ Rel i s) h1 ⟨s0, h0, hr⟩ ?_ ?_
  · rintro i d Γ hd ⟨s, rfl, hs⟩
    obtain ⟨x, hx, rfl⟩ := gmap hd
    exact hb i x s hx hs
  · rintro Γ ⟨s, rfl, hs⟩
    rw [List.length_map] at hs
    exact hd s hs
/-- a for over a range from 0 -/
theorem w_forR {is : List Nat} {gg : DG} {it : DI} {b : DS} {N : Int} {S : Type} (Rel : Nat → S → Prop) (sh : S → List Sl) (s0 : S) (h1 : it Γ = .val (((rng 0 N).map PyData.int, fr), Γ1)) (h0 : wipeG Γ1 is = sh s0) (hr : Rel 0 s0)
    (hb : ∀ (i : Nat) (s : S), (i : Int) < N → Rel i s → ∃ Γ1, gg fr (.int (i : Nat)) (sh s) = some Γ1 ∧ W b Γ1 fun w Γ2 => match w with
      | .nx => ∃ s', wipeG Γ2 is = sh s' ∧ Rel (i + 1) s'
      | .ct => ∃ s', wipeG Γ2 is = sh s' ∧ Rel (i + 1) s'
      | .bk => W r (wipeG Γ2 is) P
      | .rt q => P (.rt q) Γ2) (hd : ∀ s, Rel N.toNat s → W r (sh s) P) : W (bSeq (bFor is gg it b) r) Γ P := by
  refine w_forL (rng 0 N) Rel sh s0 h1 h0 hr ?_ ?_
  · intro i x s hx hs
    obtain ⟨rfl, hi⟩ := rng_at hx
    exact hb i s hi hs
  · intro s hs
    rw [rng_len] at hs
    exact hd s (by simpa using hs)
/-- a for over enumerate -/
theorem w_forE {α : Type} {enc : α → PyData} {is : List Nat} {gg : DG} {it : DI} {b : DS} (xs : List α) {S : Type} (Rel : Nat → S → Prop) (sh : S → List Sl) (s0 : S) (h1 : it Γ = .val ((enumD (xs.map enc), fr), Γ1)) (h0 : wipeG Γ1 is = sh s0) (hr : Rel 0 s0)
    (hb : ∀ (i : Nat) (x : α) (s : S), xs[i]? = some x → Rel i s → ∃ Γ1, gg fr (.tuple [.int (i : Nat), enc x]) (sh s) = some Γ1 ∧ W b Γ1 fun w Γ2 => match w with
      | .nx => ∃ s', wipeG Γ2 is = sh s' ∧ Rel (i + 1) s'
      | .ct => ∃ s', wipeG Γ2 is = sh s' ∧ Rel (i + 1) s'
      | .bk => W r (wipeG Γ2 is) P
      | .rt q => P (.rt q) Γ2) (hd : ∀ s, Rel xs.length s → W r (sh s) P) : W (bSeq (bFor is gg it b) r) Γ P := by
  refine w_for (fun i Γ => ∃ s, Γ = sh s ∧ Rel i s) h1 ⟨s0, h0, hr⟩ ?_ ?_
  · rintro i d Γ hd ⟨s, rfl, hs⟩
    obtain ⟨y, hy, rfl⟩ := enumD_at hd
    obtain ⟨x, hx, rfl⟩ := gmap hy
    exact hb i x s hx hs
  · rintro Γ ⟨s, rfl, hs⟩
    rw [enumD_len, List.length_map] at hs
    exact hd s hs
/-- a while -/
theorem w_whileS {is : List Nat} {fl : List Sl → Nat} {b : DS} {S : Type} (Rel : S → Prop) (ms : S → Nat) (sh : S → List Sl) (s0 : S) (h0 : wipeG Γ is = sh s0) (hr : Rel s0) (hk : ms s0 < fl Γ)
    (hb : ∀ s, Rel s → ∃ z Γ1, t (sh s) = .val (z, Γ1) ∧ (z = true → W b Γ1 fun w Γ2 => match w with
      | .nx => ∃ s', wipeG Γ2 is = sh s' ∧ Rel s' ∧ ms s' < ms s
      | .ct => ∃ s', wipeG Γ2 is = sh s' ∧ Rel s' ∧ ms s' < ms s
      | .bk => W r (wipeG Γ2 is) P
      | .rt q => P (.rt q) Γ2) ∧ (z = false → W r Γ1 P)) : W (bSeq (bWhile is fl t b) r) Γ P := by
  refine w_while (fun n Γ => ∃ s, Γ = sh s ∧ Rel s ∧ ms s = n) (ms s0) hk ⟨s0, h0, hr, rfl⟩ ?_
  rintro n Γ ⟨s, rfl, hs, rfl⟩
  obtain ⟨z, Γ1, e, hT, hF⟩ := hb s hs
  refine ⟨z, Γ1, e, fun hz => ?_, hF⟩
  refine (hT hz).mono fun y hy => ?_
  obtain ⟨w, Γ2⟩ := y
  cases w with
  | nx => obtain ⟨s', h1, h2, h3⟩ := hy; exact ⟨_, h3, s', h1, h2, rfl⟩
  | ct => obtain ⟨s', h1, h2, h3⟩ := hy; exact ⟨_, h3, s', h1, h2, rfl⟩
  | bk => exact hy
  | rt q => exact hy
theorem k_lenI {α : Type} {enc : α → PyData} {xs : List α} (h : rdD Γ a = some (.list (xs.map enc))) : kLen Γ [a] = .val (.d true (.int (xs.length : Nat))) := by rw [k_lenL h, List.length_map]
theorem k_lenJ {α : Type} {enc : α → PyData} {xs : List α} (h : rdD Γ a = some (.tuple (xs.map enc))) : kLen Γ [a] = .val (.d true (.int (xs.length : Nat))) := by rw [k_lenT h, List.length_map]
theorem t_orF (h1 : t Γ = .val (false, Γ1)) (h2 : t2 Γ1 = .val (z2, Γ2)) : dTor t t2 Γ = .val (z2, Γ2) := by
  unfold dTor; rw [h1, bind_val]; simp only [if_neg (show ¬ (false = true) by simp)]; rw [h2]; rfl
theorem k_mx2 : kMax2 Γ [.d fr (.int i), .d fr2 (.int j)] = .val (.d true (.int (max2 i j))) := rfl
theorem k_mn2 : kMin2 Γ [.d fr (.int i), .d fr2 (.int j)] = .val (.d true (.int (min2 i j))) := rfl
end
end PD


set_option linter.all false
set_option maxRecDepth 100000
set_option autoImplicit false
namespace PD
open PySem L2
/-! ## comprehensions -/
theorem filt_yes {α : Type} (xs : List α) : xs.filter (fun _ => true) = xs := List.filter_eq_self.mpr fun _ _ => rfl
theorem n_map {α : Type} {enc : α → PyData} (xs : List α) (v : α → PyData) {vs : List Nat} {g : DG} {it : DI} {e : DF} {Γ Γ1 Γ0 : List Sl} {fr : Bool} (h1 : it Γ = .val ((xs.map enc, fr), Γ1)) (hs : xs.length < 2 ^ 20) (h0 : wipeG Γ1 vs = Γ0)
    (hb : ∀ x ∈ xs, ∃ Γ2, g fr (enc x) Γ0 = some Γ2 ∧ wipeG Γ2 vs = Γ0 ∧ e Γ2 = .val (.d true (v x), Γ2)) : nComp vs g it tYes e Γ = .val (xs.map v, Γ0) := by
  have := n_comp xs (fun _ => true) v h1 hs h0 (t := tYes) (e := e) fun x hx => by
    obtain ⟨Γ2, q1, q2, q3⟩ := hb x hx
    exact ⟨Γ2, q1, q2, rfl, fun _ => q3⟩
  rw [filt_yes] at this
  exact this
theorem n_filt {α : Type} {enc : α → PyData} (xs : List α) (p : α → Bool) {vs : List Nat} {g : DG} {it : DI} {t : DT} {e : DF} {Γ Γ1 Γ0 : List Sl} {fr : Bool} (h1 : it Γ = .val ((xs.map enc, fr), Γ1)) (hs : xs.length < 2 ^ 20) (h0 : wipeG Γ1 vs = Γ0)
    (hb : ∀ x ∈ xs, ∃ Γ2, g fr (enc x) Γ0 = some Γ2 ∧ wipeG Γ2 vs = Γ0 ∧ t Γ2 = .val (p x, Γ2) ∧ (p x = true → e Γ2 = .val (.d true (enc x), Γ2))) : nComp vs g it t e Γ = .val ((xs.filter p).map enc, Γ0) := n_comp xs p enc h1 hs h0 hb
theorem e_ap {Γ Γ1 : List Sl} {f : DF} {d : PyData} {ds es : List PyData} {m : Nat} {io : Bool} (h0 : cellL Γ m = some (io, es)) (h1 : dFrz f Γ = .val (.d true d, Γ1)) (h2 : cellL Γ1 m = some (io, ds)) (h3 : ltS ds = true) : dLm m qAppend (dAc (dFrz f) dA0) Γ = .val (.d true .none, Γ1.set m (mkS io (.lst (ds ++ [d])))) := by
  unfold dLm
  rw [h0, ofO_some, bind_val, a_cons h1 a_nil, bind_val, h2, ofO_some, bind_val]
  show ((qAppend ds [.d true d]).bind _) = _
  unfold qAppend
  simp only [h3]
  rfl
theorem ltS_map {α β : Type} {f : α → β} {xs : List α} (h : xs.length < 2 ^ 20) : ltS (xs.map f) = true := ltS_of (by rw [List.length_map]; exact h)
theorem szB_map {α β : Type} {f : α → β} {xs : List α} (h : xs.length < 2 ^ 20) : szB (xs.map f) = true := szB_of (by rw [List.length_map]; exact h)
section
variable {Γ : List Sl} {a b : AV} {α : Type} [DecidableEq α] {enc : α → PyData} {k : Nat} {x y : α}
theorem k_eqT (E : EqT enc k) (hk : k ≤ 64) (h1 : rdD Γ a = some (enc x)) (h2 : rdD Γ b = some (enc y)) : kEq Γ a b = .val (decide (x = y)) := k_eq h1 h2 (E.sh hk x) (E.sh hk y) (E.eq x y)
theorem k_neT (E : EqT enc k) (hk : k ≤ 64) (h1 : rdD Γ a = some (enc x)) (h2 : rdD Γ b = some (enc y)) : kNe Γ a b = .val (!decide (x = y)) := k_ne h1 h2 (E.sh hk x) (E.sh hk y) (E.eq x y)
theorem any_T (E : EqT enc k) : ∀ xs : List α, ((xs.map enc).any fun z => PyData.eqv z (enc x)) = decide (x ∈ xs)
  | [] => rfl
  | y :: ys => by
    rw [List.map_cons, List.any_cons, any_T E ys, E.eq y x]
    by_cases h : y = x
    · subst h; simp
    · have : ¬ x = y := fun e => h e.symm
      simp [h, this]
theorem rd_own {Γ : List Sl} {m : Nat} {ds : List PyData} (h : Γ[m]? = some (.own (.lst ds))) : rdD Γ (.s m) = some (.list ds) := by unfold rdD; simp only [h]
theorem eqt_nat : EqT (fun x : Nat => PyData.int (x : Int)) 0 := ⟨fun _ => rfl, fun _ => Nat.le_refl _, fun x y => by rw [eqt_int.eq]; by_cases h : x = y <;> simp [h]; omega⟩
theorem dicA_lst {Γ : List Sl} {ds : List PyData} {a : AV} (h : rdD Γ a = some (.list ds)) : dicA Γ a = none := by
  unfold dicA
  cases a with
  | d fr d => cases h; rfl
  | s j =>
    unfold rdD at h
    simp only at h ⊢
    split at h <;> simp_all
theorem k_inT (E : EqT enc k) (hk : k + 1 ≤ 64) {xs : List α} (h1 : rdD Γ a = some (enc x)) (h2 : rdD Γ b = some (.list (xs.map enc))) : kInB Γ a b = .val (decide (x ∈ xs)) := by
  unfold kInB
  rw [dicA_lst h2]
  unfold kIn
  simp only [h1, h2]
  rw [E.sh (by omega) x, (eqt_list E).sh hk xs, any_T E]
  rfl
theorem k_ninT (E : EqT enc k) (hk : k + 1 ≤ 64) {xs : List α} (h1 : rdD Γ a = some (enc x)) (h2 : rdD Γ b = some (.list (xs.map enc))) : kNinB Γ a b = .val (!decide (x ∈ xs)) := by
  unfold kNinB
  rw [k_inT E hk h1 h2]
  rfl
end
theorem i_down {Γ Γ1 Γ2 Γ3 : List Sl} {f g h : DF} {f1 f2 f3 : Bool} {i j : Int} (h1 : f Γ = .val (.d f1 (.int i), Γ1)) (h2 : g Γ1 = .val (.d f2 (.int j), Γ2)) (h3 : h Γ2 = .val (.d f3 (.int (-1)), Γ3)) (hc : cRng i j = true) : iDown f g h Γ = .val (((rngDn i j).map PyData.int, true), Γ3) := by
  unfold iDown
  rw [h1, bind_val, h2, bind_val, h3, bind_val]
  show gq (cRng i j) _ = _
  exact gq_of _ hc
theorem rngDn_len (y : Nat) : (rngDn (y : Int) (-1)).length = y + 1 := by unfold rngDn; simp
theorem rngDn_at {y i : Nat} {x : Int} (h : (rngDn (y : Int) (-1))[i]? = some x) : ∃ k : Nat, k + i = y ∧ x = (k : Int) := by
  have hi := (List.getElem?_eq_some_iff.mp h).1
  rw [rngDn_len] at hi
  unfold rngDn at h
  rw [List.getElem?_map] at h
  rw [List.getElem?_range (by omega)] at h
  cases h
  exact ⟨y - i, by omega, by show (y : Int) - (i : Nat) = _; omega⟩
/-! ## dicts whose keys are numbers -/
abbrev dKV (kvs : List (Int × PyData)) : List (PyData × PyData) := kvs.map fun z => (PyData.int z.1, z.2)
def lookI (kvs : List (Int × PyData)) (k : Int) : Option PyData := (kvs.find? fun z => decide (z.1 = k)).map (·.2)
def putI (kvs : List (Int × PyData)) (k : Int) (v : PyData) : List (Int × PyData) := if kvs.any (fun z => decide (z.1 = k)) then kvs.map (fun z => if z.1 = k then (z.1, v) else z) else kvs ++ [(k, v)]
theorem getD_kv (kvs : List (Int × PyData)) (k : Int) : getD (dKV kvs) (.int k) = lookI kvs k := by
  unfold getD lookI
  rw [List.find?_map, Option.map_map]
  rfl
theorem putD_kv (kvs : List (Int × PyData)) (k : Int) (v : PyData) : putD (dKV kvs) (.int k) v = dKV (putI kvs k v) := by
  unfold putD putI dKV
  have e : (kvs.map fun z => (PyData.int z.1, z.2)).any (fun z => eqK z.1 (.int k)) = kvs.any (fun z => decide (z.1 = k)) := by rw [List.any_map]; rfl
  rw [e]
  split
  · rw [List.map_map, List.map_map]
    apply List.map_congr_left
    intro z _
    by_cases h : z.1 = k <;> simp [eqK, h]
  · simp
theorem lookI_nil (k : Int) : lookI [] k = none := rfl
theorem lookI_none {kvs : List (Int × PyData)} {k : Int} : lookI kvs k = none ↔ ∀ v, (k, v) ∉ kvs := by
  unfold lookI
  rw [Option.map_eq_none_iff, List.find?_eq_none]
  constructor
  · intro h v hv
    exact h _ hv (by simp)
  · intro h z hz e
    have e : z.1 = k := by simpa using e
    exact h z.2 (by rw [← e]; exact hz)
theorem lookI_cons (z : Int × PyData) (kvs : List (Int × PyData)) (k : Int) : lookI (z :: kvs) k = if z.1 = k then some z.2 else lookI kvs k := by
  unfold lookI
  rw [List.find?_cons]
  by_cases h : z.1 = k <;> simp [h]
theorem lookI_snoc (kvs : List (Int × PyData)) (a : Int) (v : PyData) (k : Int) : lookI (kvs ++ [(a, v)]) k = if (lookI kvs k).isSome then lookI kvs k else if a = k then some v else none := by
  induction kvs with
  | nil => simp [lookI_cons, lookI_nil]
  | cons z r ih =>
    rw [List.cons_append, lookI_cons, lookI_cons, ih]
    by_cases h : z.1 = k <;> simp [h]
theorem any_lookI (kvs : List (Int × PyData)) (k : Int) : kvs.any (fun z => decide (z.1 = k)) = (lookI kvs k).isSome := by
  induction kvs with
  | nil => rfl
  | cons z r ih => rw [List.any_cons, lookI_cons, ih]; by_cases h : z.1 = k <;> simp [h]
theorem lookI_put (kvs : List (Int × PyData)) (a : Int) (v : PyData) (k : Int) : lookI (putI kvs a v) k = if k = a then some v else lookI kvs k := by
  unfold putI
  rw [any_lookI]
  split
  · rename_i hs
    induction kvs with
    | nil => simp [lookI_nil] at hs
    | cons z r ih =>
      rw [List.map_cons, lookI_cons, lookI_cons]
      rw [lookI_cons] at hs
      by_cases h : z.1 = a
      · subst h
        simp only [if_true]
        by_cases h2 : z.1 = k
        · subst h2; simp
        · rw [if_neg h2, if_neg h2, if_neg (Ne.symm h2)]
          by_cases h3 : (lookI r z.1).isSome
          · rw [ih h3, if_neg (Ne.symm h2)]
          · have hn : lookI r z.1 = none := by simpa using h3
            have : r.map (fun y => if y.1 = z.1 then (y.1, v) else y) = r := by
              have e2 : r.map (fun y => if y.1 = z.1 then (y.1, v) else y) = r.map id := List.map_congr_left fun y hy => by
                rw [if_neg]
                · rfl
                · intro q
                  exact lookI_none.mp hn y.2 (by rw [← q]; exact hy)
              rw [e2, List.map_id]
            rw [this]
      · rw [if_neg h] at hs
        simp only [if_neg h]
        rw [ih hs]
        by_cases h2 : z.1 = k
        · subst h2; simp [h]
        · simp [h2]
  · rename_i hs
    rw [lookI_snoc]
    by_cases h : k = a
    · subst h; simp at hs; simp [hs]
    · rw [if_neg h, if_neg (Ne.symm h)]
      split
      · rfl
      · rename_i h2; simp at h2; rw [h2]
theorem putI_len (kvs : List (Int × PyData)) (a : Int) (v : PyData) : (putI kvs a v).length ≤ kvs.length + 1 := by
  unfold putI
  split <;> simp
theorem putI_new {kvs : List (Int × PyData)} {a : Int} (v : PyData) (h : lookI kvs a = none) : putI kvs a v = kvs ++ [(a, v)] := by
  unfold putI
  rw [any_lookI, h]
  simp
section
variable {Γ : List Sl} {fr fr2 io : Bool} {k : Int} {kvs : List (Int × PyData)} {m : Nat} {v : PyData}
theorem k_ninKS (h : dicA Γ (.s m) = some (true, .k, dKV kvs)) : kNinB Γ (.d fr (.int k)) (.s m) = .val (!(lookI kvs k).isSome) := by
  unfold kNinB kInB
  simp only [h, rdD, getD_kv]
  rfl
theorem k_inKS (h : dicA Γ (.s m) = some (true, .k, dKV kvs)) : kInB Γ (.d fr (.int k)) (.s m) = .val (lookI kvs k).isSome := by
  unfold kInB
  simp only [h, rdD, getD_kv]
  rfl
theorem kindKV (h : kvs ≠ []) : kindD (dKV kvs) = some .k := by
  cases kvs with
  | nil => exact absurd rfl h
  | cons z r => rfl
theorem k_ninKD (h : kvs ≠ []) : kNinB Γ (.d fr (.int k)) (.d fr2 (.dict (dKV kvs))) = .val (!(lookI kvs k).isSome) := by
  unfold kNinB kInB dicA
  simp only [kindKV h, Option.map_some, rdD, getD_kv]
  rfl
theorem k_inKD (h : kvs ≠ []) : kInB Γ (.d fr (.int k)) (.d fr2 (.dict (dKV kvs))) = .val (lookI kvs k).isSome := by
  unfold kInB dicA
  simp only [kindKV h, Option.map_some, rdD, getD_kv]
  rfl
theorem e_ixKS {f g : DF} {Γ1 Γ2 : List Sl} (h1 : f Γ = .val (.s m, Γ1)) (h2 : g Γ1 = .val (.d fr (.int k), Γ2)) (h3 : dicA Γ2 (.s m) = some (true, .k, dKV kvs)) (h4 : lookI kvs k = some v) : dIxB f g Γ = .val (.d true v, Γ2) := by
  unfold dIxB; rw [h1, bind_val, h2, bind_val]; unfold ixB; rw [h3]
  simp only [getD_kv, h4]; rfl
theorem e_ixKD {f g : DF} {Γ1 Γ2 : List Sl} (h1 : f Γ = .val (.d fr (.dict (dKV kvs)), Γ1)) (h2 : g Γ1 = .val (.d fr2 (.int k), Γ2)) (h4 : lookI kvs k = some v) : dIxB f g Γ = .val (.d fr v, Γ2) := by
  have hk : kvs ≠ [] := fun e => by subst e; cases h4
  unfold dIxB; rw [h1, bind_val, h2, bind_val]; unfold ixB dicA
  simp only [kindKV hk, Option.map_some, getD_kv, h4]; rfl
theorem putC_kv (h : kvs.length < 2 ^ 20) : putC (.dic .k (dKV kvs)) (.int k) v = some (.dic .k (dKV (putI kvs k v))) := by
  unfold putC
  have : decide ((dKV kvs).length < sizeLine) = true := by
    apply decide_eq_true
    have : (2 : Nat) ^ 20 ≤ sizeLine := by decide
    rw [List.length_map]; omega
  simp only [this, putD_kv]
  rfl
theorem putC_lst {ds : List PyData} {j : Nat} (h : j < ds.length) : putC (.lst ds) (.int (j : Nat)) v = some (.lst (ds.set j v)) := by
  unfold putC
  simp only [ixN_nat h]
  rfl
end
/-- pops, inserts -/
theorem e_pop {Γ : List Sl} {m : Nat} {io : Bool} {ds : List PyData} {y : PyData} (h : cellL Γ m = some (io, ds ++ [y])) : dLm m qPop dA0 Γ = .val (.d true y, Γ.set m (mkS io (.lst ds))) := by
  unfold dLm
  rw [h, ofO_some, bind_val, a_nil, bind_val, h, ofO_some, bind_val]
  unfold qPop
  simp only [List.getLast?_concat, List.dropLast_concat]
  rfl
theorem e_ins {Γ Γ1 : List Sl} {m : Nat} {io : Bool} {es ds : List PyData} {fi fx : DF} {n : Int} {y : PyData} {fr : Bool} (h0 : cellL Γ m = some (io, es)) (h1 : dAc fi (dAc (dFrz fx) dA0) Γ = .val ([.d fr (.int n), .d true y], Γ1)) (h2 : cellL Γ1 m = some (io, ds)) (h3 : cIns ds n = true) : dLm m qInsert (dAc fi (dAc (dFrz fx) dA0)) Γ = .val (.d true .none, Γ1.set m (mkS io (.lst (insI ds n y)))) := by
  unfold dLm
  rw [h0, ofO_some, bind_val, h1, bind_val, h2, ofO_some, bind_val]
  unfold qInsert
  simp only [h3]
  rfl
theorem shS {a : Str} (h : PyData.strOk a = true) : SeqAt.shaped (.str a) = true := by
  unfold SeqAt.shaped
  rw [PyData.canLay0, h]
  rfl
theorem k_neS {Γ : List Sl} {f1 f2 : Bool} {a b : Str} (h1 : PyData.strOk a = true := by decide +kernel) (h2 : PyData.strOk b = true := by decide +kernel) : kNe Γ (.d f1 (.str a)) (.d f2 (.str b)) = .val (!decide (a = b)) := k_ne rfl rfl (shS h1) (shS h2) (by show (a == b) = _; rfl)
theorem k_eqS {Γ : List Sl} {f1 f2 : Bool} {a b : Str} (h1 : PyData.strOk a = true := by decide +kernel) (h2 : PyData.strOk b = true := by decide +kernel) : kEq Γ (.d f1 (.str a)) (.d f2 (.str b)) = .val (decide (a = b)) := k_eq rfl rfl (shS h1) (shS h2) (by show (a == b) = _; rfl)
theorem x_callM {Γ Γ1 : List Sl} {k : DA} {as : List AV} {ars : List Ar} {ms : List Bool} {m : List Ar → R (Rs × List Sl)} {dds : List PyData} {r : Rs} {Z : List Sl} (h1 : k Γ = .val (as, Γ1)) (h2 : rdAs Γ1 none ms as = some ars) (h3 : m (ars ++ dds.map Ar.d) = .val (r, Z)) : xCallM m ms dds k Γ = .val (r, Γ1) := by
  unfold xCallM; rw [h1, bind_val, h2, ofO_some, bind_val, h3]; rfl
theorem x_callCM {Γ Γ1 : List Sl} {k : DA} {as : List AV} {ars : List Ar} {ms : List Bool} {m : List Ar → R (Rs × List Sl)} {dds : List PyData} {r : Rs} {Z : List Sl} {p q : Nat} {ic : Bool × Cl} {cl : Cl} (h1 : k Γ = .val (as, Γ1)) (h2 : pickC p as = some q) (h3 : cellAt Γ1 q = some ic) (h4 : rdAs Γ1 (some q) ms (as.eraseIdx p) = some ars) (h6 : m (insA p ic.2 (ars ++ dds.map Ar.d)) = .val (r, Z)) (h7 : ioAt p Z = some cl) :
    xCallCM m p ms dds k Γ = .val (r, Γ1.set q (mkS ic.1 cl)) := by
  unfold xCallCM; rw [h1, bind_val, h2, ofO_some, bind_val, h3, ofO_some, bind_val, h4, ofO_some, bind_val, h6]
  show ((R.ofO (ioAt p Z)).bind _).bind _ = _
  rw [h7]
  rfl
end PD


set_option linter.all false
set_option maxRecDepth 100000
set_option autoImplicit false
namespace PD
open PySem L2
/- check_make: 0:net 1:make -/
def b_p_check_make : DS := (bSeq (bIf (dTor (dTst (dCmp (kI fun i j => decide (i < j)) (dVar 1) (dC (.int 0)))) (dTst (dCmp (kI fun i j => decide (j ≤ i)) (dVar 1) (dB kLen (dAc (dVar 0) dA0))))) (bSeq (bRaise "NoMake" ["make"] (dAc (dFrz (dVar 1)) dA0)) bNil) bNil) bNil)
def u_p_check_make : List Ar → R (Rs × List Sl) := runB 2 2 b_p_check_make
/- next_row: 0:net 1:younger 2:row 3:found 4:make 5:elder -/
def b_p_next_row : DS := (bSeq (bSetX 3 (xC (nL (dLst dA0)))) (bSeq (bFor [4, 5] (gN 4) (iSeq (dVar 2)) (bSeq (bFor [5] (gN 5) (iSeq (dIxB (dVar 0) (dVar 4))) (bSeq (bIf (dTst (dCmp kNinB (dVar 5) (dVar 1))) (bSeq (bPut 1 (dVar 4) (dVar 5)) (bSeq (bExpr (dLm 3 qAppend (dAc (dFrz (dVar 5)) dA0))) bNil)) bNil) bNil)) bNil)) (bSeq (bRetO 3) bNil)))
def u_p_next_row : List Ar → R (Rs × List Sl) := runB 6 3 b_p_next_row
/- way_to: 0:net 1:young 2:old 3:younger 4:row 5:way -/
def b_p_way_to : DS := (bSeq (bExprX (xCall u_p_check_make [] (dAc (dVar 0) (dAc (dVar 1) dA0)))) (bSeq (bExprX (xCall u_p_check_make [] (dAc (dVar 0) (dAc (dVar 2) dA0)))) (bSeq (bSetX 3 (xC (nDic1 1 .none))) (bSeq (bSet 4 (dOfN (dLst (dAc (dFrz (dVar 1)) dA0)))) (bSeq (bWhile [] (fun _ => 1000000) (dTand (dTst (dCmp kNe (dVar 4) (dOfN (dLst dA0)))) (dTst (dCmp kNinB (dVar 2) (dVar 3)))) (bSeq (bSet 4 (eX (xCallC u_p_next_row 1 [] (dAc (dVar 0) (dAc (dVar 3) (dAc (dVar 4) dA0)))))) bNil)) (bSeq (bIf (dTst (dCmp kNinB (dVar 2) (dVar 3))) (bSeq (bRet (dC .none)) bNil) bNil) (bSeq (bSetX 5 (xC (nL (dLst (dAc (dFrz (dVar 2)) dA0))))) (bSeq (bWhile [] (fun _ => 1000000) (dTst (dCmp kNe (dIxB (dVar 5) (dNeg (dC (.int 1)))) (dVar 1))) (bSeq (bExpr (dLm 5 qAppend (dAc (dFrz (dIxB (dVar 3) (dIxB (dVar 5) (dNeg (dC (.int 1)))))) dA0))) bNil)) (bSeq (bRetC (nL (dRev (dVar 5)))) bNil)))))))))
def u_p_way_to : List Ar → R (Rs × List Sl) := runB 6 3 b_p_way_to
end PD


set_option linter.all false
set_option maxRecDepth 100000
set_option autoImplicit false
namespace PD
open PySem L2
/- places_in: 0:net 1:order 2:places 3:place 4:make 5:elder -/
def b_p_places_in : DS := (bSeq (bSetX 2 (xC (nDic0 .k))) (bSeq (bFor [3, 4, 5] (gT2 (gN 3) (gN 4)) (iEnum (dVar 1)) (bSeq (bIf (dTor (dTst (dCmp (kI fun i j => decide (i < j)) (dVar 4) (dC (.int 0)))) (dTor (dTst (dCmp (kI fun i j => decide (j ≤ i)) (dVar 4) (dB kLen (dAc (dVar 0) dA0)))) (dTst (dCmp kInB (dVar 4) (dVar 2))))) (bSeq (bRaise "NoOrder" ["place"] (dAc (dFrz (dVar 3)) dA0)) bNil) bNil) (bSeq (bFor [5] (gN 5) (iSeq (dIxB (dVar 0) (dVar 4))) (bSeq (bIf (dTst (dCmp kNinB (dVar 5) (dVar 2))) (bSeq (bRaise "NoOrder" ["place"] (dAc (dFrz (dVar 3)) dA0)) bNil) bNil) bNil)) (bSeq (bPut 2 (dVar 3) (dVar 4)) bNil)))) (bSeq (bIf (dTst (dCmp (kI fun i j => decide (i < j)) (dB kLen (dAc (dVar 1) dA0)) (dB kLen (dAc (dVar 0) dA0)))) (bSeq (bRaise "NoOrder" ["place"] (dAc (dB kLen (dAc (dVar 1) dA0)) dA0)) bNil) bNil) (bSeq (bRetO 2) bNil))))
def u_p_places_in : List Ar → R (Rs × List Sl) := runB 6 2 b_p_places_in
/- renumbered: 0:net 1:order 2:places 3:rows 4:make 5:elder -/
def b_p_renumbered : DS := (bSeq (bSetX 2 (xCall u_p_places_in [] (dAc (dVar 0) (dAc (dVar 1) dA0)))) (bSeq (bSetX 3 (xC (nL (dLst dA0)))) (bSeq (bFor [4] (gN 4) (iSeq (dVar 1)) (bSeq (bExpr (dLm 3 qAppend (dAc (dFrz (dB kTuple (dAc (dOfN (dBN kSorted (dAc (dOfN (nComp [5] (gN 5) (iSeq (dIxB (dVar 0) (dVar 4))) tYes (dFrz (dIxB (dVar 2) (dVar 5))))) dA0))) dA0))) dA0))) bNil)) (bSeq (bRet (dB kTuple (dAc (dVar 3) dA0))) bNil))))
def u_p_renumbered : List Ar → R (Rs × List Sl) := runB 6 2 b_p_renumbered
/- comes_of: 0:net 1:young 2:old -/
def b_p_comes_of : DS := (bSeq (bExprX (xCall u_p_check_make [] (dAc (dVar 0) (dAc (dVar 1) dA0)))) (bSeq (bExprX (xCall u_p_check_make [] (dAc (dVar 0) (dAc (dVar 2) dA0)))) (bSeq (bRetX (xCall uIsIn [] (dAc (dIxB (eX (xCall uBitsOf [] (dAc (dVar 0) dA0))) (dVar 1)) (dAc (dVar 2) dA0)))) bNil)))
def u_p_comes_of : List Ar → R (Rs × List Sl) := runB 3 3 b_p_comes_of
end PD


set_option linter.all false
set_option maxRecDepth 100000
set_option autoImplicit false
namespace PD
open PySem L2
/- elders_of: 0:net 1:make -/
def b_p_elders_of : DS := (bSeq (bExprX (xCall u_p_check_make [] (dAc (dVar 0) (dAc (dVar 1) dA0)))) (bSeq (bRetX (xCall uMakesIn [] (dAc (dIxB (eX (xCall uBitsOf [] (dAc (dVar 0) dA0))) (dVar 1)) dA0))) bNil))
def u_p_elders_of : List Ar → R (Rs × List Sl) := runB 2 2 b_p_elders_of
/- heirs_of: 0:net 1:make 2:bits 3:other -/
def b_p_heirs_of : DS := (bSeq (bExprX (xCall u_p_check_make [] (dAc (dVar 0) (dAc (dVar 1) dA0)))) (bSeq (bSet 2 (eX (xCall uBitsOf [] (dAc (dVar 0) dA0)))) (bSeq (bRet (dB kTuple (dAc (dOfN (nComp [3] (gN 3) (iRange1 (dB kLen (dAc (dVar 0) dA0))) (dTst (eX (xCall uIsIn [] (dAc (dIxB (dVar 2) (dVar 3)) (dAc (dVar 1) dA0))))) (dFrz (dVar 3)))) dA0))) bNil)))
def u_p_heirs_of : List Ar → R (Rs × List Sl) := runB 4 2 b_p_heirs_of
end PD


set_option linter.all false
set_option maxRecDepth 100000
set_option autoImplicit false
namespace PD
open PySem L2
/- _law_cell_at: 0:_law_script 1:_law_k -/
def b_qcell_at : DS := (bSeq (bIf (dTst (dCmp (kI fun i j => decide (i < j)) (dVar 1) (dB kLen (dAc (dVar 0) dA0)))) (bSeq (bRet (dIxB (dVar 0) (dVar 1))) bNil) bNil) (bSeq (bRet (dC (.int 0))) bNil))
def u_qcell_at : List Ar → R (Rs × List Sl) := runB 2 2 b_qcell_at
/- _law_feed: 0:_law_script 1:_law_k -/
def b_qfeed : DS := (bSeq (bRetC (nL (dLst (dAc (eX (xCall u_qcell_at [] (dAc (dVar 0) (dAc (dVar 1) dA0)))) (dAc (dC (.int 0)) (dAc (dFrz (dVar 1)) dA0)))))) bNil)
def u_qfeed : List Ar → R (Rs × List Sl) := runB 2 2 b_qfeed
/- _law_take: 0:_law_feed_here 1:_law_many 2:_law_digit 3:_law_number -/
def b_qtake : DS := (bSeq (bPut 0 (dAdd (dIxB (dVar 0) (dC (.int 1))) (dC (.int 1))) (dC (.int 1))) (bSeq (bIf (dTst (dCmp (kI fun i j => decide (j ≤ i)) (dIxB (dVar 0) (dC (.int 0))) (dI kPow (dC (.int 10)) (dC (.int 18))))) (bSeq (bSet 2 (dI kMod (dIxB (dVar 0) (dC (.int 0))) (dVar 1))) (bSeq (bPut 0 (dI kDiv (dIxB (dVar 0) (dC (.int 0))) (dVar 1)) (dC (.int 0))) (bSeq (bRet (dVar 2)) bNil))) bNil) (bSeq (bSet 3 (dAdd (dAdd (dAdd (dI kMod (dIxB (dVar 0) (dC (.int 0))) (dC (.int 2147483647))) (dI kMul (dC (.int 40692)) (dIxB (dVar 0) (dC (.int 1))))) (dI kMul (dC (.int 7919)) (dIxB (dVar 0) (dC (.int 2))))) (dC (.int 12345)))) (bSeq (bSet 3 (dI kMod (dI kMul (dVar 3) (dC (.int 48271))) (dC (.int 2147483629)))) (bSeq (bRet (dI kMod (dI kDiv (dI kMod (dI kMul (dVar 3) (dAdd (dVar 3) (dC (.int 69621)))) (dC (.int 2147483587))) (dC (.int 64))) (dVar 1))) bNil)))))
def u_qtake : List Ar → R (Rs × List Sl) := runB 4 2 b_qtake
/- _law_net: 0:_law_feed_here 1:_law_most 2:_law_many 3:_law_way 4:_law_net_here 5:_law_make 6:_law_elders 7:_law_elder 8:_law_near 9:_law_hangs -/
def b_qnet_k12 : DS := (bSeq (bSet 2 (dAdd (dC (.int 1)) (eX (xCallC u_qtake 0 [] (dAc (dVar 0) (dAc (dVar 1) dA0)))))) (bSeq (bSet 3 (eX (xCallC u_qtake 0 [] (dAc (dVar 0) (dAc (dC (.int 8)) dA0))))) (bSeq (bSetX 4 (xC (nL (dLst dA0)))) (bSeq (bFor [5, 6, 7, 8, 9] (gN 5) (iRange1 (dVar 2)) (bSeq (bSetX 6 (xC (nL (dLst dA0)))) (bSeq (bFor [7, 8, 9] (gN 7) (iRange1 (dVar 5)) (bSeq (bSet 8 (dI kSub (dVar 5) (dVar 7))) (bSeq (bSet 9 (dFrz (dIxB (dOfN (dLst (dAc (dCmp kEq (dVar 8) (dC (.int 1))) (dAc (dCmp kEq (dVar 7) (dC (.int 0))) (dAc (dCmp kEq (dVar 8) (dC (.int 2))) (dAc (dCmp kEq (dVar 8) (dI kSub (dC (.int 2)) (dI kMod (dVar 5) (dC (.int 2))))) (dAc (dC (.bool false)) dA0))))))) (dB kMin2 (dAc (dVar 3) (dAc (dC (.int 4)) dA0)))))) (bSeq (bIf (dTst (dCmp (kI fun i j => decide (j < i)) (dVar 3) (dC (.int 4)))) (bSeq (bSet 9 (dCmp kEq (eX (xCallC u_qtake 0 [] (dAc (dVar 0) (dAc (dI kSub (dVar 3) (dC (.int 3))) dA0)))) (dC (.int 0)))) bNil) bNil) (bSeq (bIf (dTst (dVar 9)) (bSeq (bExpr (dLm 6 qAppend (dAc (dFrz (dVar 7)) dA0))) bNil) bNil) bNil))))) (bSeq (bExpr (dLm 4 qAppend (dAc (dFrz (dB kTuple (dAc (dVar 6) dA0))) dA0))) bNil)))) (bSeq (bRet (dB kTuple (dAc (dVar 4) dA0))) bNil)))))
def u_qnet_k12 : List Ar → R (Rs × List Sl) := runB 10 2 b_qnet_k12
/- _law_spread: 0:_law_feed_here 1:_law_net_here 2:_law_step -/
def b_qspread : DS := (bSeq (bSet 2 (dAdd (dC (.int 1)) (dI kDiv (dB kLen (dAc (dVar 1) dA0)) (dC (.int 14))))) (bSeq (bRetC (nL (dLrng3 (eX (xCallC u_qtake 0 [] (dAc (dVar 0) (dAc (dVar 2) dA0)))) (dB kLen (dAc (dVar 1) dA0)) (dVar 2)))) bNil))
def u_qspread : List Ar → R (Rs × List Sl) := runB 3 2 b_qspread
/- _law_far: 0:_law_feed_here 1:_law_many 2:_law_far_here -/
def b_qfar : DS := (bSeq (bSet 2 (dI kMul (eX (xCallC u_qtake 0 [] (dAc (dVar 0) (dAc (dC (.int 2)) dA0)))) (dI kPow (eX (xCallC u_qtake 0 [] (dAc (dVar 0) (dAc (dI kPow (dC (.int 10)) (dC (.int 15))) dA0)))) (dC (.int 3))))) (bSeq (bRet (dIxB (dOfN (dLst (dAc (dI kSub (dNeg (dC (.int 1))) (dVar 2)) (dAc (dAdd (dVar 1) (dVar 2)) dA0)))) (eX (xCallC u_qtake 0 [] (dAc (dVar 0) (dAc (dC (.int 2)) dA0)))))) bNil))
def u_qfar : List Ar → R (Rs × List Sl) := runB 3 2 b_qfar
end PD


set_option linter.all false
set_option maxRecDepth 100000
set_option autoImplicit false
namespace PD
open PySem L2
/- some_of: 0:makes -/
def b_p_some_of : DS := (bSeq (bIf (dTst (dCmp kIs (dVar 0) (dC .none))) (bSeq (bRetC (nL (dLst dA0))) bNil) bNil) (bSeq (bRetC (nL (dBN kList (dAc (dVar 0) dA0)))) bNil))
def u_p_some_of : List Ar → R (Rs × List Sl) := runB 1 1 b_p_some_of
/- halving_plan: 0:net 1:makes 2:barred -/
def b_p_halving_plan : DS := (bSeq (bRetX (xCall (uPlanBy 64) [] (dAc (eX (xCall uBitsOf [] (dAc (dVar 0) dA0))) (dAc (dB kTuple (dAc (dOfN (dSset (dVar 1))) dA0)) (dAc (eX (xCall u_p_some_of [] (dAc (dVar 2) dA0))) dA0))))) bNil)
def u_p_halving_plan : List Ar → R (Rs × List Sl) := runB 3 3 b_p_halving_plan
end PD


set_option linter.all false
set_option maxRecDepth 100000
set_option autoImplicit false
namespace PD
open PySem L2
/- _law_draw: 0:_law_deck_here 1:_law_most 2:_law_found 3:_law_mixed -/
def b_qdraw : DS := (bSeq (bIf (dTst (dCmp (kI fun i j => decide (j < i)) (dIxB (dVar 0) (dC (.int 0))) (dC (.int 0)))) (bSeq (bSet 2 (dI kMod (dIxB (dVar 0) (dC (.int 0))) (dVar 1))) (bSeq (bPut 0 (dI kDiv (dIxB (dVar 0) (dC (.int 0))) (dVar 1)) (dC (.int 0))) (bSeq (bRet (dVar 2)) bNil))) bNil) (bSeq (bPut 0 (dAdd (dIxB (dVar 0) (dC (.int 1))) (dC (.int 1))) (dC (.int 1))) (bSeq (bSet 3 (dI kMod (dI kMul (dAdd (dIxB (dVar 0) (dC (.int 2))) (dI kMul (dI kMul (dC (.int 104729)) (dIxB (dVar 0) (dC (.int 1)))) (dIxB (dVar 0) (dC (.int 1))))) (dC (.int 48271))) (dC (.int 2147483647)))) (bSeq (bRet (dI kMod (dI kDiv (dI kMod (dAdd (dI kMul (dVar 3) (dVar 3)) (dI kMul (dC (.int 69621)) (dVar 3))) (dC (.int 2147483629))) (dC (.int 64))) (dVar 1))) bNil))))
def u_qdraw : List Ar → R (Rs × List Sl) := runB 4 2 b_qdraw
/- _law_is_elder: 0:_law_deck_here 1:_law_way 2:_law_make 3:_law_elder -/
def b_qis_elder : DS := (bSeq (bIf (dTst (dCmp (kI fun i j => decide (i < j)) (dVar 1) (dC (.int 4)))) (bSeq (bRet (dCmp kEq (eX (xCallC u_qdraw 0 [] (dAc (dVar 0) (dAc (dIxB (dOfN (dLst (dAc (dC (.int 2)) (dAc (dC (.int 2)) (dAc (dC (.int 3)) (dAc (dC (.int 4)) dA0)))))) (dVar 1)) dA0)))) (dC (.int 0)))) bNil) bNil) (bSeq (bIf (dTst (dCmp kEq (dVar 1) (dC (.int 6)))) (bSeq (bRet (dAnd (dCmp kEq (dI kMod (dVar 2) (dC (.int 2))) (dI kMod (dVar 3) (dC (.int 2)))) (dCmp kEq (eX (xCallC u_qdraw 0 [] (dAc (dVar 0) (dAc (dC (.int 2)) dA0)))) (dC (.int 0))))) bNil) bNil) (bSeq (bRet (dCmp kEq (dVar 3) (dIxB (dOfN (dLst (dAc (dI kSub (dVar 2) (dC (.int 1))) (dAc (dC (.int 0)) (dAc (dC (.int 0)) (dAc (dI kDiv (dI kSub (dVar 2) (dC (.int 1))) (dC (.int 2))) dA0)))))) (dI kSub (dVar 1) (dC (.int 4)))))) bNil)))
def u_qis_elder : List Ar → R (Rs × List Sl) := runB 4 4 b_qis_elder
/- _law_net: 0:_law_deck_here 1:_law_most 2:_law_greatest 3:_law_bound 4:_law_many 5:_law_way 6:_law_rows 7:_law_make 8:_law_elder -/
def b_qnet : DS := (bSeq (bSet 3 (dFrz (dIxB (dOfN (dLst (dAc (dFrz (dVar 1)) (dAc (dFrz (dVar 2)) dA0)))) (dB kInt (dAc (dCmp kEq (eX (xCallC u_qdraw 0 [] (dAc (dVar 0) (dAc (dC (.int 8)) dA0)))) (dC (.int 5))) dA0))))) (bSeq (bSet 4 (dAdd (dC (.int 1)) (eX (xCallC u_qdraw 0 [] (dAc (dVar 0) (dAc (dVar 3) dA0)))))) (bSeq (bSet 5 (eX (xCallC u_qdraw 0 [] (dAc (dVar 0) (dAc (dC (.int 8)) dA0))))) (bSeq (bSetX 6 (xC (nL (dLst dA0)))) (bSeq (bFor [7] (gN 7) (iRange1 (dVar 4)) (bSeq (bExpr (dLm 6 qAppend (dAc (dFrz (dB kTuple (dAc (dOfN (nComp [8] (gN 8) (iRange1 (dVar 7)) (dTst (eX (xCallC u_qis_elder 0 [] (dAc (dVar 0) (dAc (dVar 5) (dAc (dVar 7) (dAc (dVar 8) dA0))))))) (dFrz (dVar 8)))) dA0))) dA0))) bNil)) (bSeq (bRet (dB kTuple (dAc (dVar 6) dA0))) bNil))))))
def u_qnet : List Ar → R (Rs × List Sl) := runB 9 3 b_qnet
/- _law_deck: 0:_law_script 1:_law_k 2:_law_cell -/
def b_qdeck : DS := (bSeq (bSet 2 (dC (.int 0))) (bSeq (bIf (dTst (dCmp (kI fun i j => decide (i < j)) (dVar 1) (dB kLen (dAc (dVar 0) dA0)))) (bSeq (bSet 2 (dFrz (dIxB (dVar 0) (dVar 1)))) bNil) bNil) (bSeq (bIf (dTst (dCmp (kI fun i j => decide (i < j)) (dVar 2) (dI kPow (dC (.int 10)) (dC (.int 18))))) (bSeq (bRetC (nL (dLst (dAc (dC (.int 0)) (dAc (dC (.int 0)) (dAc (dI kMod (dAdd (dVar 2) (dI kMul (dC (.int 7919)) (dVar 1))) (dC (.int 2147483647))) dA0)))))) bNil) bNil) (bSeq (bRetC (nL (dLst (dAc (dFrz (dVar 2)) (dAc (dC (.int 0)) (dAc (dI kMod (dVar 2) (dC (.int 2147483647))) dA0)))))) bNil))))
def u_qdeck : List Ar → R (Rs × List Sl) := runB 3 2 b_qdeck
/- _law_reach: 0:_law_net_here 1:_law_found 2:_law_make 3:_law_elders 4:_law_row 5:_law_elder 6:_law_old 7:_law_one 8:_law_other -/
def b_qreach : DS := (bSeq (bSetX 1 (xC (nL (dLst dA0)))) (bSeq (bFor [2, 3, 4, 5] (gT2 (gN 2) (gN 3)) (iEnum (dVar 0)) (bSeq (bSet 4 (dOfN (nComp [6] (gN 6) (iRange1 (dB kLen (dAc (dVar 0) dA0))) tYes (dFrz (dCmp kEq (dVar 6) (dVar 2)))))) (bSeq (bFor [5] (gN 5) (iSeq (dVar 3)) (bSeq (bSet 4 (dOfN (nComp [7, 8] (gT2 (gN 7) (gN 8)) (iZipX (dVar 4) (dIxB (dVar 1) (dVar 5))) tYes (dFrz (dOr (dVar 7) (dVar 8)))))) bNil)) (bSeq (bExpr (dLm 1 qAppend (dAc (dFrz (dVar 4)) dA0))) bNil)))) (bSeq (bRetO 1) bNil)))
def u_qreach : List Ar → R (Rs × List Sl) := runB 9 1 b_qreach
/- _law_few: 0:_law_deck_here 1:_law_many 2:_law_most 3:_law_left 4:_law_found 5:_law_k -/
def b_qfew : DS := (bSeq (bSetX 3 (xC (nL (dLrng1 (dVar 1))))) (bSeq (bSetX 4 (xC (nL (dLst dA0)))) (bSeq (bFor [5] (gN 5) (iRange1 (dAdd (dC (.int 1)) (eX (xCallC u_qdraw 0 [] (dAc (dVar 0) (dAc (dB kMin2 (dAc (dVar 1) (dAc (dVar 2) dA0))) dA0)))))) (bSeq (bExpr (dLm 4 qAppend (dAc (dFrz (dLm 3 qPopAt (dAc (eX (xCallC u_qdraw 0 [] (dAc (dVar 0) (dAc (dB kLen (dAc (dVar 3) dA0)) dA0)))) dA0))) dA0))) bNil)) (bSeq (bRetC (nL (dCat (dVar 4) (eX (xCut (dVar 4) oNone (oSome (eX (xCallC u_qdraw 0 [] (dAc (dVar 0) (dAc (dC (.int 3)) dA0)))))))))) bNil))))
def u_qfew : List Ar → R (Rs × List Sl) := runB 6 3 b_qfew
/- _law_barred: 0:_law_deck_here 1:_law_many 2:_law_way 3:_law_found 4:_law_make -/
def b_qbarred : DS := (bSeq (bSet 2 (eX (xCallC u_qdraw 0 [] (dAc (dVar 0) (dAc (dC (.int 4)) dA0))))) (bSeq (bIf (dTst (dCmp kEq (dVar 2) (dC (.int 0)))) (bSeq (bRetC (nL (dLst dA0))) bNil) bNil) (bSeq (bSetX 3 (xC (nL (dLst dA0)))) (bSeq (bFor [4] (gN 4) (iRange1 (dVar 1)) (bSeq (bIf (dTst (dCmp kEq (eX (xCallC u_qdraw 0 [] (dAc (dVar 0) (dAc (dIxB (dOfN (dLst (dAc (dC (.int 2)) (dAc (dC (.int 2)) (dAc (dC (.int 4)) (dAc (dC (.int 8)) dA0)))))) (dVar 2)) dA0)))) (dC (.int 0)))) (bSeq (bExpr (dLm 3 qInsert (dAc (eX (xCallC u_qdraw 0 [] (dAc (dVar 0) (dAc (dAdd (dB kLen (dAc (dVar 3) dA0)) (dC (.int 1))) dA0)))) (dAc (dFrz (dVar 4)) dA0)))) bNil) bNil) bNil)) (bSeq (bRetC (nL (dCat (dVar 3) (eX (xCut (dVar 3) oNone (oSome (eX (xCallC u_qdraw 0 [] (dAc (dVar 0) (dAc (dC (.int 3)) dA0)))))))))) bNil)))))
def u_qbarred : List Ar → R (Rs × List Sl) := runB 5 2 b_qbarred
/- _law_great: 0:_law_deck_here 1:_law_most 2:_law_found 3:_law_k -/
def b_qgreat : DS := (bSeq (bSet 2 (dC (.int 0))) (bSeq (bFor [3] (gN 3) (iRange1 (dC (.int 5))) (bSeq (bSet 2 (dAdd (dI kMul (dVar 2) (dI kPow (dC (.int 10)) (dC (.int 6)))) (eX (xCallC u_qdraw 0 [] (dAc (dVar 0) (dAc (dI kPow (dC (.int 10)) (dC (.int 6))) dA0)))))) bNil)) (bSeq (bRet (dI kMod (dVar 2) (dVar 1))) bNil)))
def u_qgreat : List Ar → R (Rs × List Sl) := runB 4 2 b_qgreat
/- price_of: 0:prices 1:make -/
def b_p_price_of : DS := (bSeq (bIf (dTst (dCmp kIs (dVar 0) (dC .none))) (bSeq (bRet (dC (.int 1))) bNil) bNil) (bSeq (bRet (dIxB (dVar 0) (dVar 1))) bNil))
def u_p_price_of : List Ar → R (Rs × List Sl) := runB 2 2 b_p_price_of
end PD


set_option linter.all false
set_option maxRecDepth 100000
set_option autoImplicit false
namespace PD
open PySem L2
/- is_number: 0:thing -/
def b_p_is_number : DS := (bSeq (bRet (dAnd (dIsi [.int] (dVar 0)) (dNot (dIsi [.bool] (dVar 0))))) bNil)
def u_p_is_number : List Ar → R (Rs × List Sl) := runB 1 1 b_p_is_number
/- has_shape: 0:plan 1:make -/
def b_p_has_shape : DS := (bSeq (bIf (dTnot (dTst (dIsi [.tuple] (dVar 0)))) (bSeq (bRet (dC (.bool false))) bNil) bNil) (bSeq (bIf (dTand (dTst (dCmp kEq (dB kLen (dAc (dVar 0) dA0)) (dC (.int 2)))) (dTst (dCmp kEq (dIxB (dVar 0) (dC (.int 0))) (dC (.str "left"))))) (bSeq (bRet (dAnd (dIsi [.tuple] (dIxB (dVar 0) (dC (.int 1)))) (dB kAll (dAc (dOfN (nComp [1] (gN 1) (iSeq (dIxB (dVar 0) (dC (.int 1)))) tYes (dFrz (eX (xCall u_p_is_number [] (dAc (dVar 1) dA0)))))) dA0)))) bNil) bNil) (bSeq (bRet (dAnd (dCmp kEq (dB kLen (dAc (dVar 0) dA0)) (dC (.int 4))) (dAnd (dCmp kEq (dIxB (dVar 0) (dC (.int 0))) (dC (.str "try"))) (eX (xCall u_p_is_number [] (dAc (dIxB (dVar 0) (dC (.int 1))) dA0)))))) bNil)))
def u_p_has_shape : List Ar → R (Rs × List Sl) := runB 2 1 b_p_has_shape
/- makes_of: 0:stand 1:make 2:many -/
def b_p_makes_of : DS := (bSeq (bRet (dB kTuple (dAc (dOfN (nComp [1, 2] (gT2 (gN 1) (gN 2)) (iSeq (dVar 0)) tYes (dFrz (dVar 1)))) dA0))) bNil)
def u_p_makes_of : List Ar → R (Rs × List Sl) := runB 3 1 b_p_makes_of
/- mask_of: 0:makes 1:mask 2:make -/
def b_p_mask_of : DS := (bSeq (bSet 1 (dC (.int 0))) (bSeq (bFor [2] (gN 2) (iSeq (dVar 0)) (bSeq (bSet 1 (dI kOr (dVar 1) (dI kShl (dC (.int 1)) (dVar 2)))) bNil)) (bSeq (bRet (dVar 1)) bNil)))
def u_p_mask_of : List Ar → R (Rs × List Sl) := runB 3 1 b_p_mask_of
/- is_parted: 0:mask 1:bits 2:there -/
def b_p_is_parted : DS := (bSeq (bSet 2 (dI kAnd (dVar 0) (dVar 1))) (bSeq (bRet (dAnd (dCmp kNe (dVar 2) (dC (.int 0))) (dCmp kNe (dVar 2) (dVar 0)))) bNil))
def u_p_is_parted : List Ar → R (Rs × List Sl) := runB 3 2 b_p_is_parted
/- useful: 0:net 1:makes 2:barred 3:mask 4:gone 5:make 6:bits -/
def b_p_useful : DS := (bSeq (bSet 3 (eX (xCall u_p_mask_of [] (dAc (dVar 1) dA0)))) (bSeq (bSet 4 (eX (xCall u_p_some_of [] (dAc (dVar 2) dA0)))) (bSeq (bRetC (nL (nComp [5, 6] (gT2 (gN 5) (gN 6)) (iEnum (eX (xCall uBitsOf [] (dAc (dVar 0) dA0)))) (dTand (dTst (dCmp kNinB (dVar 5) (dVar 4))) (dTst (eX (xCall u_p_is_parted [] (dAc (dVar 3) (dAc (dVar 6) dA0)))))) (dFrz (dVar 5))))) bNil)))
def u_p_useful : List Ar → R (Rs × List Sl) := runB 7 3 b_p_useful
/- settled: 0:net 1:makes 2:barred -/
def b_p_settled : DS := (bSeq (bRet (dCmp kEq (eX (xCall u_p_useful [] (dAc (dVar 0) (dAc (dVar 1) (dAc (dVar 2) dA0))))) (dOfN (dLst dA0)))) bNil)
def u_p_settled : List Ar → R (Rs × List Sl) := runB 3 3 b_p_settled
/- check_left: 0:net 1:stand 2:plan 3:barred 4:path 5:makes -/
def b_p_check_left : DS := (bSeq (bSet 5 (eX (xCall u_p_makes_of [] (dAc (dVar 1) dA0)))) (bSeq (bIf (dTnot (dTst (eX (xCall u_p_settled [] (dAc (dVar 0) (dAc (dVar 5) (dAc (dVar 3) dA0))))))) (bSeq (bRaise "NoPlan" ["path", "word"] (dAc (dFrz (dVar 4)) (dAc (dC (.str "open")) dA0))) bNil) bNil) (bSeq (bIf (dTst (dCmp kNe (dIxB (dVar 2) (dC (.int 1))) (dVar 5))) (bSeq (bRaise "NoPlan" ["path", "word"] (dAc (dFrz (dVar 4)) (dAc (dC (.str "left")) dA0))) bNil) bNil) bNil)))
def u_p_check_left : List Ar → R (Rs × List Sl) := runB 6 5 b_p_check_left
/- parts: 0:net 1:makes 2:make -/
def b_p_parts : DS := (bSeq (bExprX (xCall u_p_check_make [] (dAc (dVar 0) (dAc (dVar 2) dA0)))) (bSeq (bRetX (xCall u_p_is_parted [] (dAc (eX (xCall u_p_mask_of [] (dAc (dVar 1) dA0))) (dAc (dIxB (eX (xCall uBitsOf [] (dAc (dVar 0) dA0))) (dVar 2)) dA0)))) bNil))
def u_p_parts : List Ar → R (Rs × List Sl) := runB 3 3 b_p_parts
/- check_try: 0:net 1:stand 2:make 3:barred 4:path -/
def b_p_check_try : DS := (bSeq (bIf (dTor (dTst (dCmp (kI fun i j => decide (i < j)) (dVar 2) (dC (.int 0)))) (dTst (dCmp (kI fun i j => decide (j ≤ i)) (dVar 2) (dB kLen (dAc (dVar 0) dA0))))) (bSeq (bRaise "NoPlan" ["path", "word"] (dAc (dFrz (dVar 4)) (dAc (dC (.str "make")) dA0))) bNil) bNil) (bSeq (bIf (dTst (dCmp kInB (dVar 2) (dVar 3))) (bSeq (bRaise "NoPlan" ["path", "word"] (dAc (dFrz (dVar 4)) (dAc (dC (.str "barred")) dA0))) bNil) bNil) (bSeq (bIf (dTnot (dTst (eX (xCall u_p_parts [] (dAc (dVar 0) (dAc (eX (xCall u_p_makes_of [] (dAc (dVar 1) dA0))) (dAc (dVar 2) dA0))))))) (bSeq (bRaise "NoPlan" ["path", "word"] (dAc (dFrz (dVar 4)) (dAc (dC (.str "useless")) dA0))) bNil) bNil) bNil)))
def u_p_check_try : List Ar → R (Rs × List Sl) := runB 5 5 b_p_check_try
/- speaks: 0:bits 1:trial 2:make 3:tried 4:answer -/
def b_p_speaks : DS := (bSeq (bSetG (gT2 (gN 3) (gN 4)) (dFrz (dVar 1))) (bSeq (bIf (dTst (dCmp kEq (dVar 4) (dC (.str "bad")))) (bSeq (bRet (dNot (eX (xCall uIsIn [] (dAc (dIxB (dVar 0) (dVar 3)) (dAc (dVar 2) dA0)))))) bNil) bNil) (bSeq (bRet (dAnd (dCmp kEq (dVar 4) (dC (.str "good"))) (eX (xCall uIsIn [] (dAc (dIxB (dVar 0) (dVar 3)) (dAc (dVar 2) dA0)))))) bNil)))
def u_p_speaks : List Ar → R (Rs × List Sl) := runB 5 3 b_p_speaks
/- behind_bits: 0:bits 1:stand 2:trial 3:lies 4:found 5:make 6:many 7:more -/
def b_p_behind_bits : DS := (bSeq (bSetX 4 (xC (nL (dLst dA0)))) (bSeq (bFor [5, 6, 7] (gT2 (gN 5) (gN 6)) (iSeq (dVar 1)) (bSeq (bSet 7 (dAdd (dVar 6) (dB kInt (dAc (eX (xCall u_p_speaks [] (dAc (dVar 0) (dAc (dVar 2) (dAc (dVar 5) dA0))))) dA0)))) (bSeq (bIf (dTst (dCmp (kI fun i j => decide (i ≤ j)) (dVar 7) (dVar 3))) (bSeq (bExpr (dLm 4 qAppend (dAc (dFrz (dTup (dAc (dFrz (dVar 5)) (dAc (dFrz (dVar 7)) dA0)))) dA0))) bNil) bNil) bNil))) (bSeq (bRet (dB kTuple (dAc (dVar 4) dA0))) bNil)))
def u_p_behind_bits : List Ar → R (Rs × List Sl) := runB 8 4 b_p_behind_bits
/- behind: 0:net 1:stand 2:make 3:answer 4:lies -/
def b_p_behind : DS := (bSeq (bExprX (xCall u_p_check_make [] (dAc (dVar 0) (dAc (dVar 2) dA0)))) (bSeq (bRetX (xCall u_p_behind_bits [] (dAc (eX (xCall uBitsOf [] (dAc (dVar 0) dA0))) (dAc (dVar 1) (dAc (dTup (dAc (dFrz (dVar 2)) (dAc (dFrz (dVar 3)) dA0))) (dAc (dVar 4) dA0)))))) bNil))
def u_p_behind : List Ar → R (Rs × List Sl) := runB 5 5 b_p_behind
/- check_plan: 0:net 1:stand 2:plan 3:barred 4:lies 5:path 6:bad 7:good -/
def b_p_check_plan : Nat → DS
  | 0 => bBad
  | n + 1 => (bSeq (bIf (dTnot (dTst (eX (xCall u_p_has_shape [] (dAc (dVar 2) dA0))))) (bSeq (bRaise "NoPlan" ["path", "word"] (dAc (dFrz (dVar 5)) (dAc (dC (.str "shape")) dA0))) bNil) bNil) (bSeq (bIf (dTst (dCmp kEq (dIxB (dVar 2) (dC (.int 0))) (dC (.str "left")))) (bSeq (bExprX (xCall u_p_check_left [] (dAc (dVar 0) (dAc (dVar 1) (dAc (dVar 2) (dAc (dVar 3) (dAc (dVar 5) dA0))))))) (bSeq bRet0 bNil)) bNil) (bSeq (bExprX (xCall u_p_check_try [] (dAc (dVar 0) (dAc (dVar 1) (dAc (dIxB (dVar 2) (dC (.int 1))) (dAc (dVar 3) (dAc (dVar 5) dA0))))))) (bSeq (bSet 6 (eX (xCall u_p_behind [] (dAc (dVar 0) (dAc (dVar 1) (dAc (dIxB (dVar 2) (dC (.int 1))) (dAc (dC (.str "bad")) (dAc (dVar 4) dA0)))))))) (bSeq (bExprX (xCall (runB 8 6 (b_p_check_plan n)) [] (dAc (dVar 0) (dAc (dVar 6) (dAc (dIxB (dVar 2) (dC (.int 2))) (dAc (dVar 3) (dAc (dVar 4) (dAc (dAdd (dVar 5) (dTup (dAc (dC (.str "bad")) dA0))) dA0)))))))) (bSeq (bSet 7 (eX (xCall u_p_behind [] (dAc (dVar 0) (dAc (dVar 1) (dAc (dIxB (dVar 2) (dC (.int 1))) (dAc (dC (.str "good")) (dAc (dVar 4) dA0)))))))) (bSeq (bExprX (xCall (runB 8 6 (b_p_check_plan n)) [] (dAc (dVar 0) (dAc (dVar 7) (dAc (dIxB (dVar 2) (dC (.int 3))) (dAc (dVar 3) (dAc (dVar 4) (dAc (dAdd (dVar 5) (dTup (dAc (dC (.str "good")) dA0))) dA0)))))))) bNil)))))))
def u_p_check_plan (n : Nat) : List Ar → R (Rs × List Sl) := runB 8 6 (b_p_check_plan n)
/- plan_asked: 0:net 1:stand 2:plan 3:barred 4:lies -/
def b_p_plan_asked : DS := (bSeq (bExprX (xCall (u_p_check_plan 64) [] (dAc (dVar 0) (dAc (dVar 1) (dAc (dVar 2) (dAc (eX (xCall u_p_some_of [] (dAc (dVar 3) dA0))) (dAc (dVar 4) (dAc (dTup dA0) dA0)))))))) (bSeq (bRet (dC (.bool true))) bNil))
def u_p_plan_asked : List Ar → R (Rs × List Sl) := runB 5 5 b_p_plan_asked
/- stand_of: 0:makes 1:make -/
def b_p_stand_of : DS := (bSeq (bRet (dB kTuple (dAc (dOfN (nComp [1] (gN 1) (iSeq (dOfN (dSset (dVar 0)))) tYes (dFrz (dTup (dAc (dFrz (dVar 1)) (dAc (dC (.int 0)) dA0)))))) dA0))) bNil)
def u_p_stand_of : List Ar → R (Rs × List Sl) := runB 2 1 b_p_stand_of
/- led: 0:net 1:plan 2:first 3:bits 4:tried -/
def b_p_led : DS := (bSeq (bExprX (xCall u_p_check_make [] (dAc (dVar 0) (dAc (dVar 2) dA0)))) (bSeq (bSet 3 (eX (xCall uBitsOf [] (dAc (dVar 0) dA0)))) (bSeq (bSetX 4 (xC (nL (dLst dA0)))) (bSeq (bWhile [] (fun _ => 1000000) (dTst (dCmp kEq (dIxB (dVar 1) (dC (.int 0))) (dC (.str "try")))) (bSeq (bExpr (dLm 4 qAppend (dAc (dFrz (dIxB (dVar 1) (dC (.int 1)))) dA0))) (bSeq (bSet 1 (dIf (dTst (eX (xCall uIsIn [] (dAc (dIxB (dVar 3) (dIxB (dVar 1) (dC (.int 1)))) (dAc (dVar 2) dA0))))) (dIxB (dVar 1) (dC (.int 2))) (dIxB (dVar 1) (dC (.int 3))))) bNil))) (bSeq (bRet (dTup (dAc (dFrz (dVar 4)) (dAc (dFrz (dIxB (dVar 1) (dC (.int 1)))) dA0)))) bNil)))))
def u_p_led : List Ar → R (Rs × List Sl) := runB 5 3 b_p_led
/- worst_of: 0:plan 1:prices 2:beneath -/
def b_p_worst_of : Nat → DS
  | 0 => bBad
  | n + 1 => (bSeq (bIf (dTst (dCmp kEq (dIxB (dVar 0) (dC (.int 0))) (dC (.str "left")))) (bSeq (bRet (dC (.int 0))) bNil) bNil) (bSeq (bSet 2 (dB kMax2 (dAc (eX (xCall (runB 3 2 (b_p_worst_of n)) [] (dAc (dIxB (dVar 0) (dC (.int 2))) (dAc (dVar 1) dA0)))) (dAc (eX (xCall (runB 3 2 (b_p_worst_of n)) [] (dAc (dIxB (dVar 0) (dC (.int 3))) (dAc (dVar 1) dA0)))) dA0)))) (bSeq (bRet (dAdd (eX (xCall u_p_price_of [] (dAc (dVar 1) (dAc (dIxB (dVar 0) (dC (.int 1))) dA0)))) (dVar 2))) bNil)))
def u_p_worst_of (n : Nat) : List Ar → R (Rs × List Sl) := runB 3 2 (b_p_worst_of n)
end PD


set_option linter.all false
set_option maxRecDepth 100000
set_option autoImplicit false
namespace PD
open PySem L2
/- _law_from: 0:_law_net_here 1:_law_found 2:_law_make 3:_law_elders 4:_law_own 5:_law_elder 6:_law_old -/
def b_qfrom : DS := (bSeq (bSetX 1 (xC (nL (dLst dA0)))) (bSeq (bFor [2, 3, 4, 5, 6] (gT2 (gN 2) (gN 3)) (iEnum (dVar 0)) (bSeq (bSetX 4 (xC (nDic1 2 (.bool true)))) (bSeq (bFor [5, 6] (gN 5) (iSeq (dVar 3)) (bSeq (bFor [6] (gN 6) (iKeyD (dIxB (dVar 1) (dVar 5))) (bSeq (bPut 4 (dC (.bool true)) (dVar 6)) bNil)) bNil)) (bSeq (bExpr (dLm 1 qAppend (dAc (dFrzK (dVar 4)) dA0))) bNil)))) (bSeq (bRetO 1) bNil)))
def u_qfrom : List Ar → R (Rs × List Sl) := runB 7 1 b_qfrom
/- check_trials: 0:net 1:trials 2:place 3:make 4:answer -/
def b_p_check_trials : DS := (bSeq (bFor [2, 3, 4] (gT2 (gN 2) (gT2 (gN 3) (gN 4))) (iEnum (dVar 1)) (bSeq (bIf (dTor (dTst (dCmp (kI fun i j => decide (i < j)) (dVar 3) (dC (.int 0)))) (dTor (dTst (dCmp (kI fun i j => decide (j ≤ i)) (dVar 3) (dB kLen (dAc (dVar 0) dA0)))) (dTst (dInG true [.str "good", .str "bad", .str "cannot"] (dVar 4))))) (bSeq (bRaise "NoTrial" ["place"] (dAc (dFrz (dVar 2)) dA0)) bNil) bNil) bNil)) bNil)
def u_p_check_trials : List Ar → R (Rs × List Sl) := runB 5 2 b_p_check_trials
end PD


set_option Elab.async false
set_option linter.all false
set_option maxRecDepth 100000
set_option maxHeartbeats 0
set_option autoImplicit false
namespace PDW
open PySem PySem.Spec PyProof.Rows L2 PD
def top (i : Nat) : Stmt := PySem.Challenge.pw_badbegins_k10_trials_that_speak.main.body.getD i (.Pass ⟨0, 0, 0, 0⟩)
structure Env (K : PySem.W.Frag) (mg : Str → Option Value) : Prop where
  d_p_law : ∃ f fd, FunD K "law" "law" (defArgs (top 34)) (defBody (top 34)) (defScope (top 34)) [] [] f fd ∧ mg "law" = some (.ref f)
  d_qfeed : ∃ f fd, FunD K "_law_feed" "_law_feed" (defArgs (top 25)) (defBody (top 25)) (defScope (top 25)) [] [] f fd ∧ mg "_law_feed" = some (.ref f)
  d_qcell_at : ∃ f fd, FunD K "_law_cell_at" "_law_cell_at" (defArgs (top 24)) (defBody (top 24)) (defScope (top 24)) [] [] f fd ∧ mg "_law_cell_at" = some (.ref f)
  d_qnet : ∃ f fd, FunD K "_law_net" "_law_net" (defArgs (top 27)) (defBody (top 27)) (defScope (top 27)) [] [] f fd ∧ mg "_law_net" = some (.ref f)
  d_qtake : ∃ f fd, FunD K "_law_take" "_law_take" (defArgs (top 26)) (defBody (top 26)) (defScope (top 26)) [] [] f fd ∧ mg "_law_take" = some (.ref f)
  d_qfrom : ∃ f fd, FunD K "_law_from" "_law_from" (defArgs (top 28)) (defBody (top 28)) (defScope (top 28)) [] [] f fd ∧ mg "_law_from" = some (.ref f)
  d_qspread : ∃ f fd, FunD K "_law_spread" "_law_spread" (defArgs (top 31)) (defBody (top 31)) (defScope (top 31)) [] [] f fd ∧ mg "_law_spread" = some (.ref f)
  d_qright : ∃ f fd, FunD K "_law_right" "_law_right" (defArgs (top 33)) (defBody (top 33)) (defScope (top 33)) [] [] f fd ∧ mg "_law_right" = some (.ref f)
  d_p_speaks_against : ∃ f fd, FunD K "speaks_against" "speaks_against" (defArgs (top 22)) (defBody (top 22)) (defScope (top 22)) [] [] f fd ∧ mg "speaks_against" = some (.ref f)
  d_p_check_trials : ∃ f fd, FunD K "check_trials" "check_trials" (defArgs (top 20)) (defBody (top 20)) (defScope (top 20)) [] [] f fd ∧ mg "check_trials" = some (.ref f)
  d_p_check_make : ∃ f fd, FunD K "check_make" "check_make" (defArgs (top 15)) (defBody (top 15)) (defScope (top 15)) [] [] f fd ∧ mg "check_make" = some (.ref f)
  d_p_speaks : ∃ f fd, FunD K "speaks" "speaks" (defArgs (top 21)) (defBody (top 21)) (defScope (top 21)) [] [] f fd ∧ mg "speaks" = some (.ref f)
  d_p_is_in : ∃ f fd, FunD K "is_in" "is_in" (defArgs (top 17)) (defBody (top 17)) (defScope (top 17)) [] [] f fd ∧ mg "is_in" = some (.ref f)
  d_p_bits_of : ∃ f fd, FunD K "bits_of" "bits_of" (defArgs (top 16)) (defBody (top 16)) (defScope (top 16)) [] [] f fd ∧ mg "bits_of" = some (.ref f)
  d_qrefused : ∃ f fd, FunD K "_law_refused" "_law_refused" (defArgs (top 32)) (defBody (top 32)) (defScope (top 32)) [] [] f fd ∧ mg "_law_refused" = some (.ref f)
  d_qis_alone : ∃ f fd, FunD K "_law_is_alone" "_law_is_alone" (defArgs (top 30)) (defBody (top 30)) (defScope (top 30)) [] [] f fd ∧ mg "_law_is_alone" = some (.ref f)
  d_qfar : ∃ f fd, FunD K "_law_far" "_law_far" (defArgs (top 29)) (defBody (top 29)) (defScope (top 29)) [] [] f fd ∧ mg "_law_far" = some (.ref f)
  b_range : mg "range" = none
  b_max : mg "max" = none
  b_min : mg "min" = none
  b_len : mg "len" = none
  b_tuple : mg "tuple" = none
  b_int : mg "int" = none
  b_enumerate : mg "enumerate" = none
  b_list : mg "list" = none
  b_isinstance : mg "isinstance" = none
  b_bool : mg "bool" = none
  b_ValueError : mg "ValueError" = none
  t_ANSWERS : GT K mg "ANSWERS" [.str "good", .str "bad", .str "cannot"] [.str "good", .str "bad", .str "cannot"]
  x_all : XAll K mg ["NoMake", "NoTrial"] ["HuntError", "NoBook", "NoMake", "NoName", "NoNet", "NoOrder", "NoPlan", "NoRow", "NoText", "NoTrial", "NoTruth", "NothingTold", "TooGreat", "ValueError"] ["HuntError"] ["make", "place"]
  hunt : HuntC K (He.ga K "HuntError") ∧ mg "HuntError" = some (.ref (He.ga K "HuntError"))
  i_NoTrial : ∃ fd, FunD K "__init__" "NoTrial.__init__" (defArgs (clsInit (top 5))) (defBody (clsInit (top 5))) (defScope (clsInit (top 5))) [] [] (He.fAd K ("NoTrial", some "__init__")) fd
  j_NoTrial : IniC K "NoTrial"
  i_NoMake : ∃ fd, FunD K "__init__" "NoMake.__init__" (defArgs (clsInit (top 4))) (defBody (clsInit (top 4))) (defScope (clsInit (top 4))) [] [] (He.fAd K ("NoMake", some "__init__")) fd
  j_NoMake : IniC K "NoMake"

theorem sc_qcell_at : FnScope ["_law_script", "_law_k"] ["_law_script", "_law_k"] (defScope (top 24)) := ⟨rfl, rfl, rfl, by decide +kernel, rfl, by decide +kernel, by decide +kernel⟩
theorem fo_qcell_at {P : Program} {w : World} {K : PySem.W.Frag} {mg : Str → Option Value} {base : Heap} (E : Env K mg) {f : Addr} {fd : FuncData} (F : FunD K "_law_cell_at" "_law_cell_at" (defArgs (top 24)) (defBody (top 24)) (defScope (top 24)) [] [] f fd) : FnOk P w K mg base (L2.CX P w) (0 + 1) f fd ["_law_script", "_law_k"] (spU K mg u_qcell_at) := by
  refine fn_u (N := ["_law_script", "_law_k"]) (ps := ["_law_script", "_law_k"]) (k := 0) F sc_qcell_at (b := b_qcell_at) (by decide) fun X W h => ?_
  have C := h.cf
  have hb_len : X.mg "len" = none := by rw [h.mg]; exact E.b_len
  have n0 : (["_law_script", "_law_k"] : List Str)[0]? = some ("_law_script" : Str) := rfl
  have v0 : visB (defScope (top 24)) "_law_script" = true := by decide +kernel
  have s0 : Sto X (defScope (top 24)) "_law_script" := sto_c h.fn (by decide +kernel)
  have n1 : (["_law_script", "_law_k"] : List Str)[1]? = some ("_law_k" : Str) := rfl
  have v1 : visB (defScope (top 24)) "_law_k" = true := by decide +kernel
  have s1 : Sto X (defScope (top 24)) "_law_k" := sto_c h.fn (by decide +kernel)
  unfold b_qcell_at
  exact (cs_cons (c1_if (ct_cmp (ce_lt (ce_var C.toCf0 1 n1 (by decide +kernel)) (ce_len C.toCf0 (by decide +kernel) hb_len (ca_cons (ce_var C.toCf0 0 n0 (by decide +kernel)) ca_nil)))) (cs_cons (c1_ret (ce_ixB C.toCf0 (ce_var C.toCf0 0 n0 (by decide +kernel)) (ce_var C.toCf0 1 n1 (by decide +kernel)))) cs_nil) cs_nil) (cs_cons (c1_ret ce_int) cs_nil))

theorem ok_qcell_at {P : Program} {w : World} {K : PySem.W.Frag} {mg : Str → Option Value} {base : Heap} (E : Env K mg) : Gv P w K mg base (0 + 1) "_law_cell_at" [] (spU K mg u_qcell_at) := by
  obtain ⟨f, fd, F, hmg⟩ := E.d_qcell_at
  exact Gv.of F hmg (fo_qcell_at E F) (F.bindsN fun _ _ _ _ _ _ us hl => match us, hl with | [_, _], _ => rfl) .nil

theorem sc_qfeed : FnScope ["_law_script", "_law_k"] ["_law_script", "_law_k"] (defScope (top 25)) := ⟨rfl, rfl, rfl, by decide +kernel, rfl, by decide +kernel, by decide +kernel⟩
theorem fo_qfeed {P : Program} {w : World} {K : PySem.W.Frag} {mg : Str → Option Value} {base : Heap} (E : Env K mg) {f : Addr} {fd : FuncData} (F : FunD K "_law_feed" "_law_feed" (defArgs (top 25)) (defBody (top 25)) (defScope (top 25)) [] [] f fd) : FnOk P w K mg base (L2.CX P w) (1 + 1) f fd ["_law_script", "_law_k"] (spU K mg u_qfeed) := by
  refine fn_u (N := ["_law_script", "_law_k"]) (ps := ["_law_script", "_law_k"]) (k := 1) F sc_qfeed (b := b_qfeed) (by decide) fun X W h => ?_
  have C := h.cf
  have c_qcell_at := (ok_qcell_at (P := P) (w := w) (base := base) E).u h (by omega)
  have n0 : (["_law_script", "_law_k"] : List Str)[0]? = some ("_law_script" : Str) := rfl
  have v0 : visB (defScope (top 25)) "_law_script" = true := by decide +kernel
  have s0 : Sto X (defScope (top 25)) "_law_script" := sto_c h.fn (by decide +kernel)
  have n1 : (["_law_script", "_law_k"] : List Str)[1]? = some ("_law_k" : Str) := rfl
  have v1 : visB (defScope (top 25)) "_law_k" = true := by decide +kernel
  have s1 : Sto X (defScope (top 25)) "_law_k" := sto_c h.fn (by decide +kernel)
  unfold b_qfeed
  exact (cs_cons (c1_retC (cc_l (cn_lst (ca_cons (ce_x (cx_call C.toCf0 c_qcell_at (by decide +kernel) (fun _ _ => .nil) (ca_cons (ce_var C.toCf0 0 n0 (by decide +kernel)) (ca_cons (ce_var C.toCf0 1 n1 (by decide +kernel)) ca_nil)))) (ca_cons ce_int (ca_cons (ce_frz (ce_var C.toCf0 1 n1 (by decide +kernel))) ca_nil)))))) cs_nil)

theorem ok_qfeed {P : Program} {w : World} {K : PySem.W.Frag} {mg : Str → Option Value} {base : Heap} (E : Env K mg) : Gv P w K mg base (1 + 1) "_law_feed" [] (spU K mg u_qfeed) := by
  obtain ⟨f, fd, F, hmg⟩ := E.d_qfeed
  exact Gv.of F hmg (fo_qfeed E F) (F.bindsN fun _ _ _ _ _ _ us hl => match us, hl with | [_, _], _ => rfl) .nil

theorem sc_qtake : FnScope ["_law_feed_here", "_law_many", "_law_digit", "_law_number"] ["_law_feed_here", "_law_many"] (defScope (top 26)) := ⟨rfl, rfl, rfl, by decide +kernel, rfl, by decide +kernel, by decide +kernel⟩
theorem fo_qtake {P : Program} {w : World} {K : PySem.W.Frag} {mg : Str → Option Value} {base : Heap} (E : Env K mg) {f : Addr} {fd : FuncData} (F : FunD K "_law_take" "_law_take" (defArgs (top 26)) (defBody (top 26)) (defScope (top 26)) [] [] f fd) : FnOk P w K mg base (L2.CX P w) (0 + 1) f fd ["_law_feed_here", "_law_many"] (spU K mg u_qtake) := by
  refine fn_u (N := ["_law_feed_here", "_law_many", "_law_digit", "_law_number"]) (ps := ["_law_feed_here", "_law_many"]) (k := 0) F sc_qtake (b := b_qtake) (by decide) fun X W h => ?_
  have C := h.cf
  have n0 : (["_law_feed_here", "_law_many", "_law_digit", "_law_number"] : List Str)[0]? = some ("_law_feed_here" : Str) := rfl
  have v0 : visB (defScope (top 26)) "_law_feed_here" = true := by decide +kernel
  have s0 : Sto X (defScope (top 26)) "_law_feed_here" := sto_c h.fn (by decide +kernel)
  have n1 : (["_law_feed_here", "_law_many", "_law_digit", "_law_number"] : List Str)[1]? = some ("_law_many" : Str) := rfl
  have v1 : visB (defScope (top 26)) "_law_many" = true := by decide +kernel
  have s1 : Sto X (defScope (top 26)) "_law_many" := sto_c h.fn (by decide +kernel)
  have n2 : (["_law_feed_here", "_law_many", "_law_digit", "_law_number"] : List Str)[2]? = some ("_law_digit" : Str) := rfl
  have v2 : visB (defScope (top 26)) "_law_digit" = true := by decide +kernel
  have s2 : Sto X (defScope (top 26)) "_law_digit" := sto_c h.fn (by decide +kernel)
  have n3 : (["_law_feed_here", "_law_many", "_law_digit", "_law_number"] : List Str)[3]? = some ("_law_number" : Str) := rfl
  have v3 : visB (defScope (top 26)) "_law_number" = true := by decide +kernel
  have s3 : Sto X (defScope (top 26)) "_law_number" := sto_c h.fn (by decide +kernel)
  unfold b_qtake
  exact (cs_cons (c1_put C.toCf0 0 n0 v0 (ce_add (ce_ixB C.toCf0 (ce_var C.toCf0 0 n0 (by decide +kernel)) ce_int) ce_int) ce_int) (cs_cons (c1_if (ct_cmp (ce_ge (ce_ixB C.toCf0 (ce_var C.toCf0 0 n0 (by decide +kernel)) ce_int) (ce_pow ce_int ce_int))) (cs_cons (c1_set C.toCf0 2 n2 s2 (ce_mod (ce_ixB C.toCf0 (ce_var C.toCf0 0 n0 (by decide +kernel)) ce_int) (ce_var C.toCf0 1 n1 (by decide +kernel)))) (cs_cons (c1_put C.toCf0 0 n0 v0 (ce_fdiv (ce_ixB C.toCf0 (ce_var C.toCf0 0 n0 (by decide +kernel)) ce_int) (ce_var C.toCf0 1 n1 (by decide +kernel))) ce_int) (cs_cons (c1_ret (ce_var C.toCf0 2 n2 (by decide +kernel))) cs_nil))) cs_nil) (cs_cons (c1_set C.toCf0 3 n3 s3 (ce_add (ce_add (ce_add (ce_mod (ce_ixB C.toCf0 (ce_var C.toCf0 0 n0 (by decide +kernel)) ce_int) ce_int) (ce_mul ce_int (ce_ixB C.toCf0 (ce_var C.toCf0 0 n0 (by decide +kernel)) ce_int))) (ce_mul ce_int (ce_ixB C.toCf0 (ce_var C.toCf0 0 n0 (by decide +kernel)) ce_int))) ce_int)) (cs_cons (c1_set C.toCf0 3 n3 s3 (ce_mod (ce_mul (ce_var C.toCf0 3 n3 (by decide +kernel)) ce_int) ce_int)) (cs_cons (c1_ret (ce_mod (ce_fdiv (ce_mod (ce_mul (ce_var C.toCf0 3 n3 (by decide +kernel)) (ce_add (ce_var C.toCf0 3 n3 (by decide +kernel)) ce_int)) ce_int) ce_int) (ce_var C.toCf0 1 n1 (by decide +kernel)))) cs_nil)))))

theorem ok_qtake {P : Program} {w : World} {K : PySem.W.Frag} {mg : Str → Option Value} {base : Heap} (E : Env K mg) : Gv P w K mg base (0 + 1) "_law_take" [] (spU K mg u_qtake) := by
  obtain ⟨f, fd, F, hmg⟩ := E.d_qtake
  exact Gv.of F hmg (fo_qtake E F) (F.bindsN fun _ _ _ _ _ _ us hl => match us, hl with | [_, _], _ => rfl) .nil

theorem sc_qnet : FnScope ["_law_feed_here", "_law_most", "_law_many", "_law_way", "_law_net_here", "_law_make", "_law_elders", "_law_elder", "_law_near", "_law_hangs"] ["_law_feed_here", "_law_most"] (defScope (top 27)) := ⟨rfl, rfl, rfl, by decide +kernel, rfl, by decide +kernel, by decide +kernel⟩
theorem fo_qnet {P : Program} {w : World} {K : PySem.W.Frag} {mg : Str → Option Value} {base : Heap} (E : Env K mg) {f : Addr} {fd : FuncData} (F : FunD K "_law_net" "_law_net" (defArgs (top 27)) (defBody (top 27)) (defScope (top 27)) [] [] f fd) : FnOk P w K mg base (L2.CX P w) (1 + 1) f fd ["_law_feed_here", "_law_most"] (spU K mg u_qnet_k12) := by
  refine fn_u (N := ["_law_feed_here", "_law_most", "_law_many", "_law_way", "_law_net_here", "_law_make", "_law_elders", "_law_elder", "_law_near", "_law_hangs"]) (ps := ["_law_feed_here", "_law_most"]) (k := 1) F sc_qnet (b := b_qnet_k12) (by decide) fun X W h => ?_
  have C := h.cf
  have hb_range : X.mg "range" = none := by rw [h.mg]; exact E.b_range
  have hb_min : X.mg "min" = none := by rw [h.mg]; exact E.b_min
  have hb_tuple : X.mg "tuple" = none := by rw [h.mg]; exact E.b_tuple
  have c_qtake := (ok_qtake (P := P) (w := w) (base := base) E).u h (by omega)
  have n0 : (["_law_feed_here", "_law_most", "_law_many", "_law_way", "_law_net_here", "_law_make", "_law_elders", "_law_elder", "_law_near", "_law_hangs"] : List Str)[0]? = some ("_law_feed_here" : Str) := rfl
  have v0 : visB (defScope (top 27)) "_law_feed_here" = true := by decide +kernel
  have s0 : Sto X (defScope (top 27)) "_law_feed_here" := sto_c h.fn (by decide +kernel)
  have n1 : (["_law_feed_here", "_law_most", "_law_many", "_law_way", "_law_net_here", "_law_make", "_law_elders", "_law_elder", "_law_near", "_law_hangs"] : List Str)[1]? = some ("_law_most" : Str) := rfl
  have v1 : visB (defScope (top 27)) "_law_most" = true := by decide +kernel
  have s1 : Sto X (defScope (top 27)) "_law_most" := sto_c h.fn (by decide +kernel)
  have n2 : (["_law_feed_here", "_law_most", "_law_many", "_law_way", "_law_net_here", "_law_make", "_law_elders", "_law_elder", "_law_near", "_law_hangs"] : List Str)[2]? = some ("_law_many" : Str) := rfl
  have v2 : visB (defScope (top 27)) "_law_many" = true := by decide +kernel
  have s2 : Sto X (defScope (top 27)) "_law_many" := sto_c h.fn (by decide +kernel)
  have n3 : (["_law_feed_here", "_law_most", "_law_many", "_law_way", "_law_net_here", "_law_make", "_law_elders", "_law_elder", "_law_near", "_law_hangs"] : List Str)[3]? = some ("_law_way" : Str) := rfl
  have v3 : visB (defScope (top 27)) "_law_way" = true := by decide +kernel
  have s3 : Sto X (defScope (top 27)) "_law_way" := sto_c h.fn (by decide +kernel)
  have n4 : (["_law_feed_here", "_law_most", "_law_many", "_law_way", "_law_net_here", "_law_make", "_law_elders", "_law_elder", "_law_near", "_law_hangs"] : List Str)[4]? = some ("_law_net_here" : Str) := rfl
  have v4 : visB (defScope (top 27)) "_law_net_here" = true := by decide +kernel
  have s4 : Sto X (defScope (top 27)) "_law_net_here" := sto_c h.fn (by decide +kernel)
  have n5 : (["_law_feed_here", "_law_most", "_law_many", "_law_way", "_law_net_here", "_law_make", "_law_elders", "_law_elder", "_law_near", "_law_hangs"] : List Str)[5]? = some ("_law_make" : Str) := rfl
  have v5 : visB (defScope (top 27)) "_law_make" = true := by decide +kernel
  have s5 : Sto X (defScope (top 27)) "_law_make" := sto_c h.fn (by decide +kernel)
  have n6 : (["_law_feed_here", "_law_most", "_law_many", "_law_way", "_law_net_here", "_law_make", "_law_elders", "_law_elder", "_law_near", "_law_hangs"] : List Str)[6]? = some ("_law_elders" : Str) := rfl
  have v6 : visB (defScope (top 27)) "_law_elders" = true := by decide +kernel
  have s6 : Sto X (defScope (top 27)) "_law_elders" := sto_c h.fn (by decide +kernel)
  have n7 : (["_law_feed_here", "_law_most", "_law_many", "_law_way", "_law_net_here", "_law_make", "_law_elders", "_law_elder", "_law_near", "_law_hangs"] : List Str)[7]? = some ("_law_elder" : Str) := rfl
  have v7 : visB (defScope (top 27)) "_law_elder" = true := by decide +kernel
  have s7 : Sto X (defScope (top 27)) "_law_elder" := sto_c h.fn (by decide +kernel)
  have n8 : (["_law_feed_here", "_law_most", "_law_many", "_law_way", "_law_net_here", "_law_make", "_law_elders", "_law_elder", "_law_near", "_law_hangs"] : List Str)[8]? = some ("_law_near" : Str) := rfl
  have v8 : visB (defScope (top 27)) "_law_near" = true := by decide +kernel
  have s8 : Sto X (defScope (top 27)) "_law_near" := sto_c h.fn (by decide +kernel)
  have n9 : (["_law_feed_here", "_law_most", "_law_many", "_law_way", "_law_net_here", "_law_make", "_law_elders", "_law_elder", "_law_near", "_law_hangs"] : List Str)[9]? = some ("_law_hangs" : Str) := rfl
  have v9 : visB (defScope (top 27)) "_law_hangs" = true := by decide +kernel
  have s9 : Sto X (defScope (top 27)) "_law_hangs" := sto_c h.fn (by decide +kernel)
  unfold b_qnet_k12
  exact (cs_cons (c1_set C.toCf0 2 n2 s2 (ce_add ce_int (ce_x (cx_callC C.toCf0 0 c_qtake (by decide +kernel) (fun _ _ => .nil) (ca_cons (ce_var C.toCf0 0 n0 (by decide +kernel)) (ca_cons (ce_var C.toCf0 1 n1 (by decide +kernel)) ca_nil)))))) (cs_cons (c1_set C.toCf0 3 n3 s3 (ce_x (cx_callC C.toCf0 0 c_qtake (by decide +kernel) (fun _ _ => .nil) (ca_cons (ce_var C.toCf0 0 n0 (by decide +kernel)) (ca_cons ce_int ca_nil))))) (cs_cons (c1_setX C.toCf0 4 n4 s4 (cx_c (cc_l (cn_lst ca_nil)))) (cs_cons (c1_for C [5, 6, 7, 8, 9] (ci_range1 C.toCf0 (by decide +kernel) hb_range (ce_var C.toCf0 2 n2 (by decide +kernel))) (cg_name C.toCf0 5 n5 s5) (cs_cons (c1_setX C.toCf0 6 n6 s6 (cx_c (cc_l (cn_lst ca_nil)))) (cs_cons (c1_for C [7, 8, 9] (ci_range1 C.toCf0 (by decide +kernel) hb_range (ce_var C.toCf0 5 n5 (by decide +kernel))) (cg_name C.toCf0 7 n7 s7) (cs_cons (c1_set C.toCf0 8 n8 s8 (ce_sub (ce_var C.toCf0 5 n5 (by decide +kernel)) (ce_var C.toCf0 7 n7 (by decide +kernel)))) (cs_cons (c1_set C.toCf0 9 n9 s9 (ce_frz (ce_ixB C.toCf0 (ce_ofN (cn_lst (ca_cons (ce_eq C.toCf0 (ce_var C.toCf0 8 n8 (by decide +kernel)) ce_int) (ca_cons (ce_eq C.toCf0 (ce_var C.toCf0 7 n7 (by decide +kernel)) ce_int) (ca_cons (ce_eq C.toCf0 (ce_var C.toCf0 8 n8 (by decide +kernel)) ce_int) (ca_cons (ce_eq C.toCf0 (ce_var C.toCf0 8 n8 (by decide +kernel)) (ce_sub ce_int (ce_mod (ce_var C.toCf0 5 n5 (by decide +kernel)) ce_int))) (ca_cons ce_bool ca_nil))))))) (ce_min2 C (by decide +kernel) hb_min (ca_cons (ce_var C.toCf0 3 n3 (by decide +kernel)) (ca_cons ce_int ca_nil)))))) (cs_cons (c1_if (ct_cmp (ce_gt (ce_var C.toCf0 3 n3 (by decide +kernel)) ce_int)) (cs_cons (c1_set C.toCf0 9 n9 s9 (ce_eq C.toCf0 (ce_x (cx_callC C.toCf0 0 c_qtake (by decide +kernel) (fun _ _ => .nil) (ca_cons (ce_var C.toCf0 0 n0 (by decide +kernel)) (ca_cons (ce_sub (ce_var C.toCf0 3 n3 (by decide +kernel)) ce_int) ca_nil)))) ce_int)) cs_nil) cs_nil) (cs_cons (c1_if (ct_of (ce_var C.toCf0 9 n9 (by decide +kernel))) (cs_cons (c1_expr (ce_append C.toCf0 6 n6 (by decide +kernel) (ce_var C.toCf0 7 n7 (by decide +kernel)))) cs_nil) cs_nil) cs_nil))))) (cs_cons (c1_expr (ce_append C.toCf0 4 n4 (by decide +kernel) (ce_tuple C.toCf0 (by decide +kernel) hb_tuple (ca_cons (ce_var C.toCf0 6 n6 (by decide +kernel)) ca_nil)))) cs_nil)))) (cs_cons (c1_ret (ce_tuple C.toCf0 (by decide +kernel) hb_tuple (ca_cons (ce_var C.toCf0 4 n4 (by decide +kernel)) ca_nil))) cs_nil)))))

theorem ok_qnet {P : Program} {w : World} {K : PySem.W.Frag} {mg : Str → Option Value} {base : Heap} (E : Env K mg) : Gv P w K mg base (1 + 1) "_law_net" [] (spU K mg u_qnet_k12) := by
  obtain ⟨f, fd, F, hmg⟩ := E.d_qnet
  exact Gv.of F hmg (fo_qnet E F) (F.bindsN fun _ _ _ _ _ _ us hl => match us, hl with | [_, _], _ => rfl) .nil

theorem sc_qfrom : FnScope ["_law_net_here", "_law_found", "_law_make", "_law_elders", "_law_own", "_law_elder", "_law_old"] ["_law_net_here"] (defScope (top 28)) := ⟨rfl, rfl, rfl, by decide +kernel, rfl, by decide +kernel, by decide +kernel⟩
theorem fo_qfrom {P : Program} {w : World} {K : PySem.W.Frag} {mg : Str → Option Value} {base : Heap} (E : Env K mg) {f : Addr} {fd : FuncData} (F : FunD K "_law_from" "_law_from" (defArgs (top 28)) (defBody (top 28)) (defScope (top 28)) [] [] f fd) : FnOk P w K mg base (L2.CX P w) (0 + 1) f fd ["_law_net_here"] (spU K mg u_qfrom) := by
  refine fn_u (N := ["_law_net_here", "_law_found", "_law_make", "_law_elders", "_law_own", "_law_elder", "_law_old"]) (ps := ["_law_net_here"]) (k := 0) F sc_qfrom (b := b_qfrom) (by decide) fun X W h => ?_
  have C := h.cf
  have hb_enumerate : X.mg "enumerate" = none := by rw [h.mg]; exact E.b_enumerate
  have n0 : (["_law_net_here", "_law_found", "_law_make", "_law_elders", "_law_own", "_law_elder", "_law_old"] : List Str)[0]? = some ("_law_net_here" : Str) := rfl
  have v0 : visB (defScope (top 28)) "_law_net_here" = true := by decide +kernel
  have s0 : Sto X (defScope (top 28)) "_law_net_here" := sto_c h.fn (by decide +kernel)
  have n1 : (["_law_net_here", "_law_found", "_law_make", "_law_elders", "_law_own", "_law_elder", "_law_old"] : List Str)[1]? = some ("_law_found" : Str) := rfl
  have v1 : visB (defScope (top 28)) "_law_found" = true := by decide +kernel
  have s1 : Sto X (defScope (top 28)) "_law_found" := sto_c h.fn (by decide +kernel)
  have n2 : (["_law_net_here", "_law_found", "_law_make", "_law_elders", "_law_own", "_law_elder", "_law_old"] : List Str)[2]? = some ("_law_make" : Str) := rfl
  have v2 : visB (defScope (top 28)) "_law_make" = true := by decide +kernel
  have s2 : Sto X (defScope (top 28)) "_law_make" := sto_c h.fn (by decide +kernel)
  have n3 : (["_law_net_here", "_law_found", "_law_make", "_law_elders", "_law_own", "_law_elder", "_law_old"] : List Str)[3]? = some ("_law_elders" : Str) := rfl
  have v3 : visB (defScope (top 28)) "_law_elders" = true := by decide +kernel
  have s3 : Sto X (defScope (top 28)) "_law_elders" := sto_c h.fn (by decide +kernel)
  have n4 : (["_law_net_here", "_law_found", "_law_make", "_law_elders", "_law_own", "_law_elder", "_law_old"] : List Str)[4]? = some ("_law_own" : Str) := rfl
  have v4 : visB (defScope (top 28)) "_law_own" = true := by decide +kernel
  have s4 : Sto X (defScope (top 28)) "_law_own" := sto_c h.fn (by decide +kernel)
  have n5 : (["_law_net_here", "_law_found", "_law_make", "_law_elders", "_law_own", "_law_elder", "_law_old"] : List Str)[5]? = some ("_law_elder" : Str) := rfl
  have v5 : visB (defScope (top 28)) "_law_elder" = true := by decide +kernel
  have s5 : Sto X (defScope (top 28)) "_law_elder" := sto_c h.fn (by decide +kernel)
  have n6 : (["_law_net_here", "_law_found", "_law_make", "_law_elders", "_law_own", "_law_elder", "_law_old"] : List Str)[6]? = some ("_law_old" : Str) := rfl
  have v6 : visB (defScope (top 28)) "_law_old" = true := by decide +kernel
  have s6 : Sto X (defScope (top 28)) "_law_old" := sto_c h.fn (by decide +kernel)
  unfold b_qfrom
  exact (cs_cons (c1_setX C.toCf0 1 n1 s1 (cx_c (cc_l (cn_lst ca_nil)))) (cs_cons (c1_for C [2, 3, 4, 5, 6] (ci_enum C.toCf0 (by decide +kernel) hb_enumerate (ce_var C.toCf0 0 n0 (by decide +kernel))) (cg_tup2 C (cg_name C.toCf0 2 n2 s2) (cg_name C.toCf0 3 n3 s3)) (cs_cons (c1_setX C.toCf0 4 n4 s4 (cx_c (cc_dic1 C.toCf0 2 n2 (by decide +kernel) pe_bl (fun _ _ => (.bl _))))) (cs_cons (c1_for C [5, 6] (ci_seq (ce_var C.toCf0 3 n3 (by decide +kernel))) (cg_name C.toCf0 5 n5 s5) (cs_cons (c1_for C [6] (ci_keyD (ce_ixB C.toCf0 (ce_var C.toCf0 1 n1 (by decide +kernel)) (ce_var C.toCf0 5 n5 (by decide +kernel)))) (cg_name C.toCf0 6 n6 s6) (cs_cons (c1_put C.toCf0 4 n4 v4 ce_bool (ce_var C.toCf0 6 n6 (by decide +kernel))) cs_nil)) cs_nil)) (cs_cons (c1_expr (ce_appendK C.toCf0 1 n1 (by decide +kernel) (ce_var C.toCf0 4 n4 (by decide +kernel)))) cs_nil)))) (cs_cons (c1_retO C.toCf0 1 n1 (by decide +kernel)) cs_nil)))

theorem ok_qfrom {P : Program} {w : World} {K : PySem.W.Frag} {mg : Str → Option Value} {base : Heap} (E : Env K mg) : Gv P w K mg base (0 + 1) "_law_from" [] (spU K mg u_qfrom) := by
  obtain ⟨f, fd, F, hmg⟩ := E.d_qfrom
  exact Gv.of F hmg (fo_qfrom E F) (F.bindsN fun _ _ _ _ _ _ us hl => match us, hl with | [_], _ => rfl) .nil

theorem sc_qspread : FnScope ["_law_feed_here", "_law_net_here", "_law_step"] ["_law_feed_here", "_law_net_here"] (defScope (top 31)) := ⟨rfl, rfl, rfl, by decide +kernel, rfl, by decide +kernel, by decide +kernel⟩
theorem fo_qspread {P : Program} {w : World} {K : PySem.W.Frag} {mg : Str → Option Value} {base : Heap} (E : Env K mg) {f : Addr} {fd : FuncData} (F : FunD K "_law_spread" "_law_spread" (defArgs (top 31)) (defBody (top 31)) (defScope (top 31)) [] [] f fd) : FnOk P w K mg base (L2.CX P w) (1 + 1) f fd ["_law_feed_here", "_law_net_here"] (spU K mg u_qspread) := by
  refine fn_u (N := ["_law_feed_here", "_law_net_here", "_law_step"]) (ps := ["_law_feed_here", "_law_net_here"]) (k := 1) F sc_qspread (b := b_qspread) (by decide) fun X W h => ?_
  have C := h.cf
  have hb_len : X.mg "len" = none := by rw [h.mg]; exact E.b_len
  have hb_list : X.mg "list" = none := by rw [h.mg]; exact E.b_list
  have hb_range : X.mg "range" = none := by rw [h.mg]; exact E.b_range
  have c_qtake := (ok_qtake (P := P) (w := w) (base := base) E).u h (by omega)
  have n0 : (["_law_feed_here", "_law_net_here", "_law_step"] : List Str)[0]? = some ("_law_feed_here" : Str) := rfl
  have v0 : visB (defScope (top 31)) "_law_feed_here" = true := by decide +kernel
  have s0 : Sto X (defScope (top 31)) "_law_feed_here" := sto_c h.fn (by decide +kernel)
  have n1 : (["_law_feed_here", "_law_net_here", "_law_step"] : List Str)[1]? = some ("_law_net_here" : Str) := rfl
  have v1 : visB (defScope (top 31)) "_law_net_here" = true := by decide +kernel
  have s1 : Sto X (defScope (top 31)) "_law_net_here" := sto_c h.fn (by decide +kernel)
  have n2 : (["_law_feed_here", "_law_net_here", "_law_step"] : List Str)[2]? = some ("_law_step" : Str) := rfl
  have v2 : visB (defScope (top 31)) "_law_step" = true := by decide +kernel
  have s2 : Sto X (defScope (top 31)) "_law_step" := sto_c h.fn (by decide +kernel)
  unfold b_qspread
  exact (cs_cons (c1_set C.toCf0 2 n2 s2 (ce_add ce_int (ce_fdiv (ce_len C.toCf0 (by decide +kernel) hb_len (ca_cons (ce_var C.toCf0 1 n1 (by decide +kernel)) ca_nil)) ce_int))) (cs_cons (c1_retC (cc_l (cn_lrng3 C (by decide +kernel) hb_list (by decide +kernel) hb_range (ce_x (cx_callC C.toCf0 0 c_qtake (by decide +kernel) (fun _ _ => .nil) (ca_cons (ce_var C.toCf0 0 n0 (by decide +kernel)) (ca_cons (ce_var C.toCf0 2 n2 (by decide +kernel)) ca_nil)))) (ce_len C.toCf0 (by decide +kernel) hb_len (ca_cons (ce_var C.toCf0 1 n1 (by decide +kernel)) ca_nil)) (ce_var C.toCf0 2 n2 (by decide +kernel))))) cs_nil))

theorem ok_qspread {P : Program} {w : World} {K : PySem.W.Frag} {mg : Str → Option Value} {base : Heap} (E : Env K mg) : Gv P w K mg base (1 + 1) "_law_spread" [] (spU K mg u_qspread) := by
  obtain ⟨f, fd, F, hmg⟩ := E.d_qspread
  exact Gv.of F hmg (fo_qspread E F) (F.bindsN fun _ _ _ _ _ _ us hl => match us, hl with | [_, _], _ => rfl) .nil

theorem xm_NoTrial {P : Program} {w : World} {K : PySem.W.Frag} {mg : Str → Option Value} {base : Heap} (E : Env K mg) {X : Cx} {W : WX} {sc : Scope} {N : List Str} {k : Nat} (h : Here X W P w K mg base sc N k) (hk : 2 ≤ k) : XMk X "NoTrial" ["place"] := by
  obtain ⟨fd, F⟩ := E.i_NoTrial
  exact xm1 h hk F (F.bindsN fun _ _ _ _ _ _ us hl => match us, hl with | [_, _], _ => rfl) E.j_NoTrial E.x_all E.hunt.1 E.hunt.2 (by decide +kernel) (by decide +kernel) ⟨rfl, rfl, rfl, by decide +kernel, rfl, by decide +kernel, by decide +kernel⟩ ⟨_, _, _, _, _, _, _, _, _, _, _, _, rfl, fun env => ⟨_, rfl⟩⟩ (by decide +kernel) (by decide +kernel) (by decide +kernel)

theorem sc_p_check_trials : FnScope ["net", "trials", "place", "make", "answer"] ["net", "trials"] (defScope (top 20)) := ⟨rfl, rfl, rfl, by decide +kernel, rfl, by decide +kernel, by decide +kernel⟩
theorem fo_p_check_trials {P : Program} {w : World} {K : PySem.W.Frag} {mg : Str → Option Value} {base : Heap} (E : Env K mg) {f : Addr} {fd : FuncData} (F : FunD K "check_trials" "check_trials" (defArgs (top 20)) (defBody (top 20)) (defScope (top 20)) [] [] f fd) : FnOk P w K mg base (L2.CX P w) (2 + 1) f fd ["net", "trials"] (spU K mg u_p_check_trials) := by
  refine fn_u (N := ["net", "trials", "place", "make", "answer"]) (ps := ["net", "trials"]) (k := 2) F sc_p_check_trials (b := b_p_check_trials) (by decide) fun X W h => ?_
  have C := h.cf
  have hb_enumerate : X.mg "enumerate" = none := by rw [h.mg]; exact E.b_enumerate
  have hb_len : X.mg "len" = none := by rw [h.mg]; exact E.b_len
  have hX : XAll X.K X.mg ["NoMake", "NoTrial"] ["HuntError", "NoBook", "NoMake", "NoName", "NoNet", "NoOrder", "NoPlan", "NoRow", "NoText", "NoTrial", "NoTruth", "NothingTold", "TooGreat", "ValueError"] ["HuntError"] ["make", "place"] := by rw [h.K, h.mg]; exact E.x_all
  have ht_ANSWERS : GT X.K X.mg "ANSWERS" [.str "good", .str "bad", .str "cannot"] [.str "good", .str "bad", .str "cannot"] := by rw [h.K, h.mg]; exact E.t_ANSWERS
  have m_NoTrial := xm_NoTrial E h (by omega)
  have n0 : (["net", "trials", "place", "make", "answer"] : List Str)[0]? = some ("net" : Str) := rfl
  have v0 : visB (defScope (top 20)) "net" = true := by decide +kernel
  have s0 : Sto X (defScope (top 20)) "net" := sto_c h.fn (by decide +kernel)
  have n1 : (["net", "trials", "place", "make", "answer"] : List Str)[1]? = some ("trials" : Str) := rfl
  have v1 : visB (defScope (top 20)) "trials" = true := by decide +kernel
  have s1 : Sto X (defScope (top 20)) "trials" := sto_c h.fn (by decide +kernel)
  have n2 : (["net", "trials", "place", "make", "answer"] : List Str)[2]? = some ("place" : Str) := rfl
  have v2 : visB (defScope (top 20)) "place" = true := by decide +kernel
  have s2 : Sto X (defScope (top 20)) "place" := sto_c h.fn (by decide +kernel)
  have n3 : (["net", "trials", "place", "make", "answer"] : List Str)[3]? = some ("make" : Str) := rfl
  have v3 : visB (defScope (top 20)) "make" = true := by decide +kernel
  have s3 : Sto X (defScope (top 20)) "make" := sto_c h.fn (by decide +kernel)
  have n4 : (["net", "trials", "place", "make", "answer"] : List Str)[4]? = some ("answer" : Str) := rfl
  have v4 : visB (defScope (top 20)) "answer" = true := by decide +kernel
  have s4 : Sto X (defScope (top 20)) "answer" := sto_c h.fn (by decide +kernel)
  unfold b_p_check_trials
  exact (cs_cons (c1_for C [2, 3, 4] (ci_enum C.toCf0 (by decide +kernel) hb_enumerate (ce_var C.toCf0 1 n1 (by decide +kernel))) (cg_tup2 C (cg_name C.toCf0 2 n2 s2) (cg_tup2 C (cg_name C.toCf0 3 n3 s3) (cg_name C.toCf0 4 n4 s4))) (cs_cons (c1_if (ct_w (cw_or (ct_cmp (ce_lt (ce_var C.toCf0 3 n3 (by decide +kernel)) ce_int)) (cw_or (ct_cmp (ce_ge (ce_var C.toCf0 3 n3 (by decide +kernel)) (ce_len C.toCf0 (by decide +kernel) hb_len (ca_cons (ce_var C.toCf0 0 n0 (by decide +kernel)) ca_nil)))) (cw_or1 (ct_cmp (ce_notinG C.toCf0 ht_ANSWERS (by decide +kernel) (ce_var C.toCf0 4 n4 (by decide +kernel)))))))) (cs_cons (c1_raise C hX m_NoTrial (by decide +kernel) (by decide +kernel) (ca_cons (ce_frz (ce_var C.toCf0 2 n2 (by decide +kernel))) ca_nil)) cs_nil) cs_nil) cs_nil)) cs_nil)

theorem ok_p_check_trials {P : Program} {w : World} {K : PySem.W.Frag} {mg : Str → Option Value} {base : Heap} (E : Env K mg) : Gv P w K mg base (2 + 1) "check_trials" [] (spU K mg u_p_check_trials) := by
  obtain ⟨f, fd, F, hmg⟩ := E.d_p_check_trials
  exact Gv.of F hmg (fo_p_check_trials E F) (F.bindsN fun _ _ _ _ _ _ us hl => match us, hl with | [_, _], _ => rfl) .nil

theorem xm_NoMake {P : Program} {w : World} {K : PySem.W.Frag} {mg : Str → Option Value} {base : Heap} (E : Env K mg) {X : Cx} {W : WX} {sc : Scope} {N : List Str} {k : Nat} (h : Here X W P w K mg base sc N k) (hk : 2 ≤ k) : XMk X "NoMake" ["make"] := by
  obtain ⟨fd, F⟩ := E.i_NoMake
  exact xm1 h hk F (F.bindsN fun _ _ _ _ _ _ us hl => match us, hl with | [_, _], _ => rfl) E.j_NoMake E.x_all E.hunt.1 E.hunt.2 (by decide +kernel) (by decide +kernel) ⟨rfl, rfl, rfl, by decide +kernel, rfl, by decide +kernel, by decide +kernel⟩ ⟨_, _, _, _, _, _, _, _, _, _, _, _, rfl, fun env => ⟨_, rfl⟩⟩ (by decide +kernel) (by decide +kernel) (by decide +kernel)

theorem sc_p_check_make : FnScope ["net", "make"] ["net", "make"] (defScope (top 15)) := ⟨rfl, rfl, rfl, by decide +kernel, rfl, by decide +kernel, by decide +kernel⟩
theorem fo_p_check_make {P : Program} {w : World} {K : PySem.W.Frag} {mg : Str → Option Value} {base : Heap} (E : Env K mg) {f : Addr} {fd : FuncData} (F : FunD K "check_make" "check_make" (defArgs (top 15)) (defBody (top 15)) (defScope (top 15)) [] [] f fd) : FnOk P w K mg base (L2.CX P w) (2 + 1) f fd ["net", "make"] (spU K mg u_p_check_make) := by
  refine fn_u (N := ["net", "make"]) (ps := ["net", "make"]) (k := 2) F sc_p_check_make (b := b_p_check_make) (by decide) fun X W h => ?_
  have C := h.cf
  have hb_len : X.mg "len" = none := by rw [h.mg]; exact E.b_len
  have hX : XAll X.K X.mg ["NoMake", "NoTrial"] ["HuntError", "NoBook", "NoMake", "NoName", "NoNet", "NoOrder", "NoPlan", "NoRow", "NoText", "NoTrial", "NoTruth", "NothingTold", "TooGreat", "ValueError"] ["HuntError"] ["make", "place"] := by rw [h.K, h.mg]; exact E.x_all
  have m_NoMake := xm_NoMake E h (by omega)
  have n0 : (["net", "make"] : List Str)[0]? = some ("net" : Str) := rfl
  have v0 : visB (defScope (top 15)) "net" = true := by decide +kernel
  have s0 : Sto X (defScope (top 15)) "net" := sto_c h.fn (by decide +kernel)
  have n1 : (["net", "make"] : List Str)[1]? = some ("make" : Str) := rfl
  have v1 : visB (defScope (top 15)) "make" = true := by decide +kernel
  have s1 : Sto X (defScope (top 15)) "make" := sto_c h.fn (by decide +kernel)
  unfold b_p_check_make
  exact (cs_cons (c1_if (ct_w (cw_or (ct_cmp (ce_lt (ce_var C.toCf0 1 n1 (by decide +kernel)) ce_int)) (cw_or1 (ct_cmp (ce_ge (ce_var C.toCf0 1 n1 (by decide +kernel)) (ce_len C.toCf0 (by decide +kernel) hb_len (ca_cons (ce_var C.toCf0 0 n0 (by decide +kernel)) ca_nil))))))) (cs_cons (c1_raise C hX m_NoMake (by decide +kernel) (by decide +kernel) (ca_cons (ce_frz (ce_var C.toCf0 1 n1 (by decide +kernel))) ca_nil)) cs_nil) cs_nil) cs_nil)

theorem ok_p_check_make {P : Program} {w : World} {K : PySem.W.Frag} {mg : Str → Option Value} {base : Heap} (E : Env K mg) : Gv P w K mg base (2 + 1) "check_make" [] (spU K mg u_p_check_make) := by
  obtain ⟨f, fd, F, hmg⟩ := E.d_p_check_make
  exact Gv.of F hmg (fo_p_check_make E F) (F.bindsN fun _ _ _ _ _ _ us hl => match us, hl with | [_, _], _ => rfl) .nil

theorem sc_p_is_in : FnScope ["mask", "make"] ["mask", "make"] (defScope (top 17)) := ⟨rfl, rfl, rfl, by decide +kernel, rfl, by decide +kernel, by decide +kernel⟩
theorem fo_p_is_in {P : Program} {w : World} {K : PySem.W.Frag} {mg : Str → Option Value} {base : Heap} (E : Env K mg) {f : Addr} {fd : FuncData} (F : FunD K "is_in" "is_in" (defArgs (top 17)) (defBody (top 17)) (defScope (top 17)) [] [] f fd) : FnOk P w K mg base (L2.CX P w) (0 + 1) f fd ["mask", "make"] (spU K mg uIsIn) := by
  refine fn_u (N := ["mask", "make"]) (ps := ["mask", "make"]) (k := 0) F sc_p_is_in (b := bIsIn) (by decide) fun X W h => ?_
  have C := h.cf
  have n0 : (["mask", "make"] : List Str)[0]? = some ("mask" : Str) := rfl
  have v0 : visB (defScope (top 17)) "mask" = true := by decide +kernel
  have s0 : Sto X (defScope (top 17)) "mask" := sto_c h.fn (by decide +kernel)
  have n1 : (["mask", "make"] : List Str)[1]? = some ("make" : Str) := rfl
  have v1 : visB (defScope (top 17)) "make" = true := by decide +kernel
  have s1 : Sto X (defScope (top 17)) "make" := sto_c h.fn (by decide +kernel)
  unfold bIsIn
  exact (cs_cons (c1_ret (ce_eq C.toCf0 (ce_band (ce_shr (ce_var C.toCf0 0 n0 (by decide +kernel)) (ce_var C.toCf0 1 n1 (by decide +kernel))) ce_int) ce_int)) cs_nil)

theorem ok_p_is_in {P : Program} {w : World} {K : PySem.W.Frag} {mg : Str → Option Value} {base : Heap} (E : Env K mg) : Gv P w K mg base (0 + 1) "is_in" [] (spU K mg uIsIn) := by
  obtain ⟨f, fd, F, hmg⟩ := E.d_p_is_in
  exact Gv.of F hmg (fo_p_is_in E F) (F.bindsN fun _ _ _ _ _ _ us hl => match us, hl with | [_, _], _ => rfl) .nil

theorem sc_p_speaks : FnScope ["bits", "trial", "make", "tried", "answer"] ["bits", "trial", "make"] (defScope (top 21)) := ⟨rfl, rfl, rfl, by decide +kernel, rfl, by decide +kernel, by decide +kernel⟩
theorem fo_p_speaks {P : Program} {w : World} {K : PySem.W.Frag} {mg : Str → Option Value} {base : Heap} (E : Env K mg) {f : Addr} {fd : FuncData} (F : FunD K "speaks" "speaks" (defArgs (top 21)) (defBody (top 21)) (defScope (top 21)) [] [] f fd) : FnOk P w K mg base (L2.CX P w) (1 + 1) f fd ["bits", "trial", "make"] (spU K mg u_p_speaks) := by
  refine fn_u (N := ["bits", "trial", "make", "tried", "answer"]) (ps := ["bits", "trial", "make"]) (k := 1) F sc_p_speaks (b := b_p_speaks) (by decide) fun X W h => ?_
  have C := h.cf
  have c_p_is_in := (ok_p_is_in (P := P) (w := w) (base := base) E).u h (by omega)
  have n0 : (["bits", "trial", "make", "tried", "answer"] : List Str)[0]? = some ("bits" : Str) := rfl
  have v0 : visB (defScope (top 21)) "bits" = true := by decide +kernel
  have s0 : Sto X (defScope (top 21)) "bits" := sto_c h.fn (by decide +kernel)
  have n1 : (["bits", "trial", "make", "tried", "answer"] : List Str)[1]? = some ("trial" : Str) := rfl
  have v1 : visB (defScope (top 21)) "trial" = true := by decide +kernel
  have s1 : Sto X (defScope (top 21)) "trial" := sto_c h.fn (by decide +kernel)
  have n2 : (["bits", "trial", "make", "tried", "answer"] : List Str)[2]? = some ("make" : Str) := rfl
  have v2 : visB (defScope (top 21)) "make" = true := by decide +kernel
  have s2 : Sto X (defScope (top 21)) "make" := sto_c h.fn (by decide +kernel)
  have n3 : (["bits", "trial", "make", "tried", "answer"] : List Str)[3]? = some ("tried" : Str) := rfl
  have v3 : visB (defScope (top 21)) "tried" = true := by decide +kernel
  have s3 : Sto X (defScope (top 21)) "tried" := sto_c h.fn (by decide +kernel)
  have n4 : (["bits", "trial", "make", "tried", "answer"] : List Str)[4]? = some ("answer" : Str) := rfl
  have v4 : visB (defScope (top 21)) "answer" = true := by decide +kernel
  have s4 : Sto X (defScope (top 21)) "answer" := sto_c h.fn (by decide +kernel)
  unfold b_p_speaks
  exact (cs_cons (c1_setG (cg_tup2 C (cg_name C.toCf0 3 n3 s3) (cg_name C.toCf0 4 n4 s4)) (ce_frz (ce_var C.toCf0 1 n1 (by decide +kernel)))) (cs_cons (c1_if (ct_cmp (ce_eq C.toCf0 (ce_var C.toCf0 4 n4 (by decide +kernel)) ce_str)) (cs_cons (c1_ret (ce_not (ce_x (cx_call C.toCf0 c_p_is_in (by decide +kernel) (fun _ _ => .nil) (ca_cons (ce_ixB C.toCf0 (ce_var C.toCf0 0 n0 (by decide +kernel)) (ce_var C.toCf0 3 n3 (by decide +kernel))) (ca_cons (ce_var C.toCf0 2 n2 (by decide +kernel)) ca_nil)))))) cs_nil) cs_nil) (cs_cons (c1_ret (ce_and (ce_eq C.toCf0 (ce_var C.toCf0 4 n4 (by decide +kernel)) ce_str) (ce_one (ce_x (cx_call C.toCf0 c_p_is_in (by decide +kernel) (fun _ _ => .nil) (ca_cons (ce_ixB C.toCf0 (ce_var C.toCf0 0 n0 (by decide +kernel)) (ce_var C.toCf0 3 n3 (by decide +kernel))) (ca_cons (ce_var C.toCf0 2 n2 (by decide +kernel)) ca_nil))))))) cs_nil)))

theorem ok_p_speaks {P : Program} {w : World} {K : PySem.W.Frag} {mg : Str → Option Value} {base : Heap} (E : Env K mg) : Gv P w K mg base (1 + 1) "speaks" [] (spU K mg u_p_speaks) := by
  obtain ⟨f, fd, F, hmg⟩ := E.d_p_speaks
  exact Gv.of F hmg (fo_p_speaks E F) (F.bindsN fun _ _ _ _ _ _ us hl => match us, hl with | [_, _, _], _ => rfl) .nil

theorem sc_p_bits_of : FnScope ["net", "found", "make", "elders", "bits", "elder"] ["net"] (defScope (top 16)) := ⟨rfl, rfl, rfl, by decide +kernel, rfl, by decide +kernel, by decide +kernel⟩
theorem fo_p_bits_of {P : Program} {w : World} {K : PySem.W.Frag} {mg : Str → Option Value} {base : Heap} (E : Env K mg) {f : Addr} {fd : FuncData} (F : FunD K "bits_of" "bits_of" (defArgs (top 16)) (defBody (top 16)) (defScope (top 16)) [] [] f fd) : FnOk P w K mg base (L2.CX P w) (0 + 1) f fd ["net"] (spU K mg uBitsOf) := by
  refine fn_u (N := ["net", "found", "make", "elders", "bits", "elder"]) (ps := ["net"]) (k := 0) F sc_p_bits_of (b := bBitsOf) (by decide) fun X W h => ?_
  have C := h.cf
  have hb_enumerate : X.mg "enumerate" = none := by rw [h.mg]; exact E.b_enumerate
  have n0 : (["net", "found", "make", "elders", "bits", "elder"] : List Str)[0]? = some ("net" : Str) := rfl
  have v0 : visB (defScope (top 16)) "net" = true := by decide +kernel
  have s0 : Sto X (defScope (top 16)) "net" := sto_c h.fn (by decide +kernel)
  have n1 : (["net", "found", "make", "elders", "bits", "elder"] : List Str)[1]? = some ("found" : Str) := rfl
  have v1 : visB (defScope (top 16)) "found" = true := by decide +kernel
  have s1 : Sto X (defScope (top 16)) "found" := sto_c h.fn (by decide +kernel)
  have n2 : (["net", "found", "make", "elders", "bits", "elder"] : List Str)[2]? = some ("make" : Str) := rfl
  have v2 : visB (defScope (top 16)) "make" = true := by decide +kernel
  have s2 : Sto X (defScope (top 16)) "make" := sto_c h.fn (by decide +kernel)
  have n3 : (["net", "found", "make", "elders", "bits", "elder"] : List Str)[3]? = some ("elders" : Str) := rfl
  have v3 : visB (defScope (top 16)) "elders" = true := by decide +kernel
  have s3 : Sto X (defScope (top 16)) "elders" := sto_c h.fn (by decide +kernel)
  have n4 : (["net", "found", "make", "elders", "bits", "elder"] : List Str)[4]? = some ("bits" : Str) := rfl
  have v4 : visB (defScope (top 16)) "bits" = true := by decide +kernel
  have s4 : Sto X (defScope (top 16)) "bits" := sto_c h.fn (by decide +kernel)
  have n5 : (["net", "found", "make", "elders", "bits", "elder"] : List Str)[5]? = some ("elder" : Str) := rfl
  have v5 : visB (defScope (top 16)) "elder" = true := by decide +kernel
  have s5 : Sto X (defScope (top 16)) "elder" := sto_c h.fn (by decide +kernel)
  unfold bBitsOf
  exact (cs_cons (c1_setX C.toCf0 1 n1 s1 (cx_c (cc_l (cn_lst ca_nil)))) (cs_cons (c1_for C [2, 3, 4, 5] (ci_enum C.toCf0 (by decide +kernel) hb_enumerate (ce_var C.toCf0 0 n0 (by decide +kernel))) (cg_tup2 C (cg_name C.toCf0 2 n2 s2) (cg_name C.toCf0 3 n3 s3)) (cs_cons (c1_set C.toCf0 4 n4 s4 (ce_shl ce_int (ce_var C.toCf0 2 n2 (by decide +kernel)))) (cs_cons (c1_for C [5] (ci_seq (ce_var C.toCf0 3 n3 (by decide +kernel))) (cg_name C.toCf0 5 n5 s5) (cs_cons (c1_set C.toCf0 4 n4 s4 (ce_bor (ce_var C.toCf0 4 n4 (by decide +kernel)) (ce_ixB C.toCf0 (ce_var C.toCf0 1 n1 (by decide +kernel)) (ce_var C.toCf0 5 n5 (by decide +kernel))))) cs_nil)) (cs_cons (c1_expr (ce_append C.toCf0 1 n1 (by decide +kernel) (ce_var C.toCf0 4 n4 (by decide +kernel)))) cs_nil)))) (cs_cons (c1_retO C.toCf0 1 n1 (by decide +kernel)) cs_nil)))

theorem ok_p_bits_of {P : Program} {w : World} {K : PySem.W.Frag} {mg : Str → Option Value} {base : Heap} (E : Env K mg) : Gv P w K mg base (0 + 1) "bits_of" [] (spU K mg uBitsOf) := by
  obtain ⟨f, fd, F, hmg⟩ := E.d_p_bits_of
  exact Gv.of F hmg (fo_p_bits_of E F) (F.bindsN fun _ _ _ _ _ _ us hl => match us, hl with | [_], _ => rfl) .nil

def b_p_speaks_against : DS := (bSeq (bExprX (xCall u_p_check_trials [] (dAc (dVar 0) (dAc (dOfN (dLst (dAc (dFrz (dVar 1)) dA0))) dA0)))) (bSeq (bExprX (xCall u_p_check_make [] (dAc (dVar 0) (dAc (dVar 2) dA0)))) (bSeq (bRetX (xCall u_p_speaks [] (dAc (eX (xCall uBitsOf [] (dAc (dVar 0) dA0))) (dAc (dVar 1) (dAc (dVar 2) dA0))))) bNil)))
def u_p_speaks_against : List Ar → R (Rs × List Sl) := runB 3 3 b_p_speaks_against
theorem sc_p_speaks_against : FnScope ["net", "trial", "make"] ["net", "trial", "make"] (defScope (top 22)) := ⟨rfl, rfl, rfl, by decide +kernel, rfl, by decide +kernel, by decide +kernel⟩
theorem fo_p_speaks_against {P : Program} {w : World} {K : PySem.W.Frag} {mg : Str → Option Value} {base : Heap} (E : Env K mg) {f : Addr} {fd : FuncData} (F : FunD K "speaks_against" "speaks_against" (defArgs (top 22)) (defBody (top 22)) (defScope (top 22)) [] [] f fd) : FnOk P w K mg base (L2.CX P w) (3 + 1) f fd ["net", "trial", "make"] (spU K mg u_p_speaks_against) := by
  refine fn_u (N := ["net", "trial", "make"]) (ps := ["net", "trial", "make"]) (k := 3) F sc_p_speaks_against (b := b_p_speaks_against) (by decide) fun X W h => ?_
  have C := h.cf
  have c_p_check_trials := (ok_p_check_trials (P := P) (w := w) (base := base) E).u h (by omega)
  have c_p_check_make := (ok_p_check_make (P := P) (w := w) (base := base) E).u h (by omega)
  have c_p_speaks := (ok_p_speaks (P := P) (w := w) (base := base) E).u h (by omega)
  have c_p_bits_of := (ok_p_bits_of (P := P) (w := w) (base := base) E).u h (by omega)
  have n0 : (["net", "trial", "make"] : List Str)[0]? = some ("net" : Str) := rfl
  have v0 : visB (defScope (top 22)) "net" = true := by decide +kernel
  have s0 : Sto X (defScope (top 22)) "net" := sto_c h.fn (by decide +kernel)
  have n1 : (["net", "trial", "make"] : List Str)[1]? = some ("trial" : Str) := rfl
  have v1 : visB (defScope (top 22)) "trial" = true := by decide +kernel
  have s1 : Sto X (defScope (top 22)) "trial" := sto_c h.fn (by decide +kernel)
  have n2 : (["net", "trial", "make"] : List Str)[2]? = some ("make" : Str) := rfl
  have v2 : visB (defScope (top 22)) "make" = true := by decide +kernel
  have s2 : Sto X (defScope (top 22)) "make" := sto_c h.fn (by decide +kernel)
  unfold b_p_speaks_against
  exact (cs_cons (c1_exprX (cx_call C.toCf0 c_p_check_trials (by decide +kernel) (fun _ _ => .nil) (ca_cons (ce_var C.toCf0 0 n0 (by decide +kernel)) (ca_cons (ce_ofN (cn_lst (ca_cons (ce_frz (ce_var C.toCf0 1 n1 (by decide +kernel))) ca_nil))) ca_nil)))) (cs_cons (c1_exprX (cx_call C.toCf0 c_p_check_make (by decide +kernel) (fun _ _ => .nil) (ca_cons (ce_var C.toCf0 0 n0 (by decide +kernel)) (ca_cons (ce_var C.toCf0 2 n2 (by decide +kernel)) ca_nil)))) (cs_cons (c1_retX (cx_call C.toCf0 c_p_speaks (by decide +kernel) (fun _ _ => .nil) (ca_cons (ce_x (cx_call C.toCf0 c_p_bits_of (by decide +kernel) (fun _ _ => .nil) (ca_cons (ce_var C.toCf0 0 n0 (by decide +kernel)) ca_nil))) (ca_cons (ce_var C.toCf0 1 n1 (by decide +kernel)) (ca_cons (ce_var C.toCf0 2 n2 (by decide +kernel)) ca_nil))))) cs_nil)))

theorem ok_p_speaks_against {P : Program} {w : World} {K : PySem.W.Frag} {mg : Str → Option Value} {base : Heap} (E : Env K mg) : Gv P w K mg base (3 + 1) "speaks_against" [] (spU K mg u_p_speaks_against) := by
  obtain ⟨f, fd, F, hmg⟩ := E.d_p_speaks_against
  exact Gv.of F hmg (fo_p_speaks_against E F) (F.bindsN fun _ _ _ _ _ _ us hl => match us, hl with | [_, _, _], _ => rfl) .nil

def b_qright : DS := (bSeq (bSetG (gT2 (gN 4) (gN 5)) (dFrz (dVar 2))) (bSeq (bSet 6 (dOr (dAnd (dCmp kEq (dVar 5) (dC (.str "good"))) (dCmp kInB (dVar 3) (dIxB (dVar 1) (dVar 4)))) (dAnd (dCmp kEq (dVar 5) (dC (.str "bad"))) (dCmp kNinB (dVar 3) (dIxB (dVar 1) (dVar 4)))))) (bSeq (bFor [7, 8] (gN 7) (iRange1 (dC (.int 2))) (bSeq (bSet 8 (eX (xCall u_p_speaks_against [] (dAc (dVar 0) (dAc (dVar 2) (dAc (dVar 3) dA0)))))) (bSeq (bIf (dTor (dTnot (dTst (dIsi [.bool] (dVar 8)))) (dTst (dCmp kNe (dVar 8) (dVar 6)))) (bSeq (bRet (dC (.bool false))) bNil) bNil) bNil))) (bSeq (bRet (dC (.bool true))) bNil))))
def u_qright : List Ar → R (Rs × List Sl) := runB 9 4 b_qright
theorem sc_qright : FnScope ["_law_net_here", "_law_olds", "_law_trial", "_law_make", "_law_tried", "_law_answer", "_law_due", "_law_turn", "_law_found"] ["_law_net_here", "_law_olds", "_law_trial", "_law_make"] (defScope (top 33)) := ⟨rfl, rfl, rfl, by decide +kernel, rfl, by decide +kernel, by decide +kernel⟩
theorem fo_qright {P : Program} {w : World} {K : PySem.W.Frag} {mg : Str → Option Value} {base : Heap} (E : Env K mg) {f : Addr} {fd : FuncData} (F : FunD K "_law_right" "_law_right" (defArgs (top 33)) (defBody (top 33)) (defScope (top 33)) [] [] f fd) : FnOk P w K mg base (L2.CX P w) (4 + 1) f fd ["_law_net_here", "_law_olds", "_law_trial", "_law_make"] (spU K mg u_qright) := by
  refine fn_u (N := ["_law_net_here", "_law_olds", "_law_trial", "_law_make", "_law_tried", "_law_answer", "_law_due", "_law_turn", "_law_found"]) (ps := ["_law_net_here", "_law_olds", "_law_trial", "_law_make"]) (k := 4) F sc_qright (b := b_qright) (by decide) fun X W h => ?_
  have C := h.cf
  have hb_range : X.mg "range" = none := by rw [h.mg]; exact E.b_range
  have hb_isinstance : X.mg "isinstance" = none := by rw [h.mg]; exact E.b_isinstance
  have hb_bool : X.mg "bool" = none := by rw [h.mg]; exact E.b_bool
  have c_p_speaks_against := (ok_p_speaks_against (P := P) (w := w) (base := base) E).u h (by omega)
  have n0 : (["_law_net_here", "_law_olds", "_law_trial", "_law_make", "_law_tried", "_law_answer", "_law_due", "_law_turn", "_law_found"] : List Str)[0]? = some ("_law_net_here" : Str) := rfl
  have v0 : visB (defScope (top 33)) "_law_net_here" = true := by decide +kernel
  have s0 : Sto X (defScope (top 33)) "_law_net_here" := sto_c h.fn (by decide +kernel)
  have n1 : (["_law_net_here", "_law_olds", "_law_trial", "_law_make", "_law_tried", "_law_answer", "_law_due", "_law_turn", "_law_found"] : List Str)[1]? = some ("_law_olds" : Str) := rfl
  have v1 : visB (defScope (top 33)) "_law_olds" = true := by decide +kernel
  have s1 : Sto X (defScope (top 33)) "_law_olds" := sto_c h.fn (by decide +kernel)
  have n2 : (["_law_net_here", "_law_olds", "_law_trial", "_law_make", "_law_tried", "_law_answer", "_law_due", "_law_turn", "_law_found"] : List Str)[2]? = some ("_law_trial" : Str) := rfl
  have v2 : visB (defScope (top 33)) "_law_trial" = true := by decide +kernel
  have s2 : Sto X (defScope (top 33)) "_law_trial" := sto_c h.fn (by decide +kernel)
  have n3 : (["_law_net_here", "_law_olds", "_law_trial", "_law_make", "_law_tried", "_law_answer", "_law_due", "_law_turn", "_law_found"] : List Str)[3]? = some ("_law_make" : Str) := rfl
  have v3 : visB (defScope (top 33)) "_law_make" = true := by decide +kernel
  have s3 : Sto X (defScope (top 33)) "_law_make" := sto_c h.fn (by decide +kernel)
  have n4 : (["_law_net_here", "_law_olds", "_law_trial", "_law_make", "_law_tried", "_law_answer", "_law_due", "_law_turn", "_law_found"] : List Str)[4]? = some ("_law_tried" : Str) := rfl
  have v4 : visB (defScope (top 33)) "_law_tried" = true := by decide +kernel
  have s4 : Sto X (defScope (top 33)) "_law_tried" := sto_c h.fn (by decide +kernel)
  have n5 : (["_law_net_here", "_law_olds", "_law_trial", "_law_make", "_law_tried", "_law_answer", "_law_due", "_law_turn", "_law_found"] : List Str)[5]? = some ("_law_answer" : Str) := rfl
  have v5 : visB (defScope (top 33)) "_law_answer" = true := by decide +kernel
  have s5 : Sto X (defScope (top 33)) "_law_answer" := sto_c h.fn (by decide +kernel)
  have n6 : (["_law_net_here", "_law_olds", "_law_trial", "_law_make", "_law_tried", "_law_answer", "_law_due", "_law_turn", "_law_found"] : List Str)[6]? = some ("_law_due" : Str) := rfl
  have v6 : visB (defScope (top 33)) "_law_due" = true := by decide +kernel
  have s6 : Sto X (defScope (top 33)) "_law_due" := sto_c h.fn (by decide +kernel)
  have n7 : (["_law_net_here", "_law_olds", "_law_trial", "_law_make", "_law_tried", "_law_answer", "_law_due", "_law_turn", "_law_found"] : List Str)[7]? = some ("_law_turn" : Str) := rfl
  have v7 : visB (defScope (top 33)) "_law_turn" = true := by decide +kernel
  have s7 : Sto X (defScope (top 33)) "_law_turn" := sto_c h.fn (by decide +kernel)
  have n8 : (["_law_net_here", "_law_olds", "_law_trial", "_law_make", "_law_tried", "_law_answer", "_law_due", "_law_turn", "_law_found"] : List Str)[8]? = some ("_law_found" : Str) := rfl
  have v8 : visB (defScope (top 33)) "_law_found" = true := by decide +kernel
  have s8 : Sto X (defScope (top 33)) "_law_found" := sto_c h.fn (by decide +kernel)
  unfold b_qright
  exact (cs_cons (c1_setG (cg_tup2 C (cg_name C.toCf0 4 n4 s4) (cg_name C.toCf0 5 n5 s5)) (ce_frz (ce_var C.toCf0 2 n2 (by decide +kernel)))) (cs_cons (c1_set C.toCf0 6 n6 s6 (ce_or (ce_and (ce_eq C.toCf0 (ce_var C.toCf0 5 n5 (by decide +kernel)) ce_str) (ce_one (ce_inB C.toCf0 (ce_var C.toCf0 3 n3 (by decide +kernel)) (ce_ixB C.toCf0 (ce_var C.toCf0 1 n1 (by decide +kernel)) (ce_var C.toCf0 4 n4 (by decide +kernel)))))) (ce_one (ce_and (ce_eq C.toCf0 (ce_var C.toCf0 5 n5 (by decide +kernel)) ce_str) (ce_one (ce_notinB C.toCf0 (ce_var C.toCf0 3 n3 (by decide +kernel)) (ce_ixB C.toCf0 (ce_var C.toCf0 1 n1 (by decide +kernel)) (ce_var C.toCf0 4 n4 (by decide +kernel))))))))) (cs_cons (c1_for C [7, 8] (ci_range1 C.toCf0 (by decide +kernel) hb_range ce_int) (cg_name C.toCf0 7 n7 s7) (cs_cons (c1_set C.toCf0 8 n8 s8 (ce_x (cx_call C.toCf0 c_p_speaks_against (by decide +kernel) (fun _ _ => .nil) (ca_cons (ce_var C.toCf0 0 n0 (by decide +kernel)) (ca_cons (ce_var C.toCf0 2 n2 (by decide +kernel)) (ca_cons (ce_var C.toCf0 3 n3 (by decide +kernel)) ca_nil)))))) (cs_cons (c1_if (ct_w (cw_or (ct_not (ct_of (ce_isi C.toCf0 .bool (by decide +kernel) hb_isinstance (by decide +kernel) hb_bool rfl (ce_var C.toCf0 8 n8 (by decide +kernel))))) (cw_or1 (ct_cmp (ce_ne C.toCf0 (ce_var C.toCf0 8 n8 (by decide +kernel)) (ce_var C.toCf0 6 n6 (by decide +kernel))))))) (cs_cons (c1_ret ce_bool) cs_nil) cs_nil) cs_nil))) (cs_cons (c1_ret ce_bool) cs_nil))))

theorem ok_qright {P : Program} {w : World} {K : PySem.W.Frag} {mg : Str → Option Value} {base : Heap} (E : Env K mg) : Gv P w K mg base (4 + 1) "_law_right" [] (spU K mg u_qright) := by
  obtain ⟨f, fd, F, hmg⟩ := E.d_qright
  exact Gv.of F hmg (fo_qright E F) (F.bindsN fun _ _ _ _ _ _ us hl => match us, hl with | [_, _, _, _], _ => rfl) .nil

def b_qis_alone : DS := (bSeq (bSet 2 (dOfN (dLst (dAc (dIsx ["NoMake", "NoTrial"] ["NoNet"] (dVar 0)) (dAc (dIsx ["NoMake", "NoTrial"] ["NoOrder"] (dVar 0)) (dAc (dIsx ["NoMake", "NoTrial"] ["NoMake"] (dVar 0)) (dAc (dIsx ["NoMake", "NoTrial"] ["NoTrial"] (dVar 0)) dA0))))))) (bSeq (bSet 2 (dOfN (dCat (dVar 2) (dOfN (dLst (dAc (dIsx ["NoMake", "NoTrial"] ["NoTruth"] (dVar 0)) (dAc (dIsx ["NoMake", "NoTrial"] ["NoPlan"] (dVar 0)) (dAc (dIsx ["NoMake", "NoTrial"] ["NoBook"] (dVar 0)) (dAc (dIsx ["NoMake", "NoTrial"] ["TooGreat"] (dVar 0)) dA0))))))))) (bSeq (bSet 2 (dOfN (dCat (dVar 2) (dOfN (dLst (dAc (dIsx ["NoMake", "NoTrial"] ["NoText"] (dVar 0)) (dAc (dIsx ["NoMake", "NoTrial"] ["NoName"] (dVar 0)) (dAc (dIsx ["NoMake", "NoTrial"] ["NothingTold"] (dVar 0)) (dAc (dIsx ["NoMake", "NoTrial"] ["NoRow"] (dVar 0)) dA0))))))))) (bSeq (bRet (dAnd (dIsx ["NoMake", "NoTrial"] ["HuntError"] (dVar 0)) (dAnd (dIsx ["NoMake", "NoTrial"] ["ValueError"] (dVar 0)) (dAnd (dVar 1) (dCmp kEq (dCnt (dVar 2) (dC (.bool true))) (dC (.int 1))))))) bNil))))
def u_qis_alone : List Ar → R (Rs × List Sl) := runB 3 2 b_qis_alone
theorem sc_qis_alone : FnScope ["_law_e", "_law_own", "_law_some"] ["_law_e", "_law_own"] (defScope (top 30)) := ⟨rfl, rfl, rfl, by decide +kernel, rfl, by decide +kernel, by decide +kernel⟩
theorem fo_qis_alone {P : Program} {w : World} {K : PySem.W.Frag} {mg : Str → Option Value} {base : Heap} (E : Env K mg) {f : Addr} {fd : FuncData} (F : FunD K "_law_is_alone" "_law_is_alone" (defArgs (top 30)) (defBody (top 30)) (defScope (top 30)) [] [] f fd) : FnOk P w K mg base (L2.CX P w) (0 + 1) f fd ["_law_e", "_law_own"] (spU K mg u_qis_alone) := by
  refine fn_u (N := ["_law_e", "_law_own", "_law_some"]) (ps := ["_law_e", "_law_own"]) (k := 0) F sc_qis_alone (b := b_qis_alone) (by decide) fun X W h => ?_
  have C := h.cf
  have hb_isinstance : X.mg "isinstance" = none := by rw [h.mg]; exact E.b_isinstance
  have hb_ValueError : X.mg "ValueError" = none := by rw [h.mg]; exact E.b_ValueError
  have hX : XAll X.K X.mg ["NoMake", "NoTrial"] ["HuntError", "NoBook", "NoMake", "NoName", "NoNet", "NoOrder", "NoPlan", "NoRow", "NoText", "NoTrial", "NoTruth", "NothingTold", "TooGreat", "ValueError"] ["HuntError"] ["make", "place"] := by rw [h.K, h.mg]; exact E.x_all
  have n0 : (["_law_e", "_law_own", "_law_some"] : List Str)[0]? = some ("_law_e" : Str) := rfl
  have v0 : visB (defScope (top 30)) "_law_e" = true := by decide +kernel
  have s0 : Sto X (defScope (top 30)) "_law_e" := sto_c h.fn (by decide +kernel)
  have n1 : (["_law_e", "_law_own", "_law_some"] : List Str)[1]? = some ("_law_own" : Str) := rfl
  have v1 : visB (defScope (top 30)) "_law_own" = true := by decide +kernel
  have s1 : Sto X (defScope (top 30)) "_law_own" := sto_c h.fn (by decide +kernel)
  have n2 : (["_law_e", "_law_own", "_law_some"] : List Str)[2]? = some ("_law_some" : Str) := rfl
  have v2 : visB (defScope (top 30)) "_law_some" = true := by decide +kernel
  have s2 : Sto X (defScope (top 30)) "_law_some" := sto_c h.fn (by decide +kernel)
  unfold b_qis_alone
  exact (cs_cons (c1_set C.toCf0 2 n2 s2 (ce_ofN (cn_lst (ca_cons (ce_isx C.toCf0 hX "NoNet" (by decide +kernel) hb_isinstance (by decide +kernel) (by decide +kernel) (fun z => absurd z (by decide +kernel)) (ce_var C.toCf0 0 n0 (by decide +kernel))) (ca_cons (ce_isx C.toCf0 hX "NoOrder" (by decide +kernel) hb_isinstance (by decide +kernel) (by decide +kernel) (fun z => absurd z (by decide +kernel)) (ce_var C.toCf0 0 n0 (by decide +kernel))) (ca_cons (ce_isx C.toCf0 hX "NoMake" (by decide +kernel) hb_isinstance (by decide +kernel) (by decide +kernel) (fun z => absurd z (by decide +kernel)) (ce_var C.toCf0 0 n0 (by decide +kernel))) (ca_cons (ce_isx C.toCf0 hX "NoTrial" (by decide +kernel) hb_isinstance (by decide +kernel) (by decide +kernel) (fun z => absurd z (by decide +kernel)) (ce_var C.toCf0 0 n0 (by decide +kernel))) ca_nil))))))) (cs_cons (c1_set C.toCf0 2 n2 s2 (ce_ofN (cn_cat (ce_var C.toCf0 2 n2 (by decide +kernel)) (ce_ofN (cn_lst (ca_cons (ce_isx C.toCf0 hX "NoTruth" (by decide +kernel) hb_isinstance (by decide +kernel) (by decide +kernel) (fun z => absurd z (by decide +kernel)) (ce_var C.toCf0 0 n0 (by decide +kernel))) (ca_cons (ce_isx C.toCf0 hX "NoPlan" (by decide +kernel) hb_isinstance (by decide +kernel) (by decide +kernel) (fun z => absurd z (by decide +kernel)) (ce_var C.toCf0 0 n0 (by decide +kernel))) (ca_cons (ce_isx C.toCf0 hX "NoBook" (by decide +kernel) hb_isinstance (by decide +kernel) (by decide +kernel) (fun z => absurd z (by decide +kernel)) (ce_var C.toCf0 0 n0 (by decide +kernel))) (ca_cons (ce_isx C.toCf0 hX "TooGreat" (by decide +kernel) hb_isinstance (by decide +kernel) (by decide +kernel) (fun z => absurd z (by decide +kernel)) (ce_var C.toCf0 0 n0 (by decide +kernel))) ca_nil))))))))) (cs_cons (c1_set C.toCf0 2 n2 s2 (ce_ofN (cn_cat (ce_var C.toCf0 2 n2 (by decide +kernel)) (ce_ofN (cn_lst (ca_cons (ce_isx C.toCf0 hX "NoText" (by decide +kernel) hb_isinstance (by decide +kernel) (by decide +kernel) (fun z => absurd z (by decide +kernel)) (ce_var C.toCf0 0 n0 (by decide +kernel))) (ca_cons (ce_isx C.toCf0 hX "NoName" (by decide +kernel) hb_isinstance (by decide +kernel) (by decide +kernel) (fun z => absurd z (by decide +kernel)) (ce_var C.toCf0 0 n0 (by decide +kernel))) (ca_cons (ce_isx C.toCf0 hX "NothingTold" (by decide +kernel) hb_isinstance (by decide +kernel) (by decide +kernel) (fun z => absurd z (by decide +kernel)) (ce_var C.toCf0 0 n0 (by decide +kernel))) (ca_cons (ce_isx C.toCf0 hX "NoRow" (by decide +kernel) hb_isinstance (by decide +kernel) (by decide +kernel) (fun z => absurd z (by decide +kernel)) (ce_var C.toCf0 0 n0 (by decide +kernel))) ca_nil))))))))) (cs_cons (c1_ret (ce_and (ce_isx C.toCf0 hX "HuntError" (by decide +kernel) hb_isinstance (by decide +kernel) (by decide +kernel) (fun z => absurd z (by decide +kernel)) (ce_var C.toCf0 0 n0 (by decide +kernel))) (ce_and (ce_isx C.toCf0 hX "ValueError" (by decide +kernel) hb_isinstance (by decide +kernel) (by decide +kernel) (fun _ => hb_ValueError) (ce_var C.toCf0 0 n0 (by decide +kernel))) (ce_and (ce_var C.toCf0 1 n1 (by decide +kernel)) (ce_one (ce_eq C.toCf0 (ce_cnt (ce_var C.toCf0 2 n2 (by decide +kernel)) ce_bool) ce_int)))))) cs_nil))))

theorem foq_qis_alone {P : Program} {w : World} {K : PySem.W.Frag} {mg : Str → Option Value} {base : Heap} (E : Env K mg) {f : Addr} {fd : FuncData} (F : FunD K "_law_is_alone" "_law_is_alone" (defArgs (top 30)) (defBody (top 30)) (defScope (top 30)) [] [] f fd) : FnQ P w K mg base (0 + 1) f fd ["_law_e", "_law_own"] (spU K mg u_qis_alone) := by
  refine fn_uQ (N := ["_law_e", "_law_own", "_law_some"]) (ps := ["_law_e", "_law_own"]) (k := 0) F sc_qis_alone (b := b_qis_alone) (by decide) fun X W h => ?_
  have C := h.cf
  have hb_isinstance : X.mg "isinstance" = none := by rw [h.mg]; exact E.b_isinstance
  have hb_ValueError : X.mg "ValueError" = none := by rw [h.mg]; exact E.b_ValueError
  have hX : XAll X.K X.mg ["NoMake", "NoTrial"] ["HuntError", "NoBook", "NoMake", "NoName", "NoNet", "NoOrder", "NoPlan", "NoRow", "NoText", "NoTrial", "NoTruth", "NothingTold", "TooGreat", "ValueError"] ["HuntError"] ["make", "place"] := by rw [h.K, h.mg]; exact E.x_all
  have n0 : (["_law_e", "_law_own", "_law_some"] : List Str)[0]? = some ("_law_e" : Str) := rfl
  have v0 : visB (defScope (top 30)) "_law_e" = true := by decide +kernel
  have s0 : Sto X (defScope (top 30)) "_law_e" := sto_c h.fn (by decide +kernel)
  have n1 : (["_law_e", "_law_own", "_law_some"] : List Str)[1]? = some ("_law_own" : Str) := rfl
  have v1 : visB (defScope (top 30)) "_law_own" = true := by decide +kernel
  have s1 : Sto X (defScope (top 30)) "_law_own" := sto_c h.fn (by decide +kernel)
  have n2 : (["_law_e", "_law_own", "_law_some"] : List Str)[2]? = some ("_law_some" : Str) := rfl
  have v2 : visB (defScope (top 30)) "_law_some" = true := by decide +kernel
  have s2 : Sto X (defScope (top 30)) "_law_some" := sto_c h.fn (by decide +kernel)
  unfold b_qis_alone
  exact (cs_cons (c1_set C 2 n2 s2 (ce_ofN (cn_lst (ca_cons (ce_isx C hX "NoNet" (by decide +kernel) hb_isinstance (by decide +kernel) (by decide +kernel) (fun z => absurd z (by decide +kernel)) (ce_var C 0 n0 (by decide +kernel))) (ca_cons (ce_isx C hX "NoOrder" (by decide +kernel) hb_isinstance (by decide +kernel) (by decide +kernel) (fun z => absurd z (by decide +kernel)) (ce_var C 0 n0 (by decide +kernel))) (ca_cons (ce_isx C hX "NoMake" (by decide +kernel) hb_isinstance (by decide +kernel) (by decide +kernel) (fun z => absurd z (by decide +kernel)) (ce_var C 0 n0 (by decide +kernel))) (ca_cons (ce_isx C hX "NoTrial" (by decide +kernel) hb_isinstance (by decide +kernel) (by decide +kernel) (fun z => absurd z (by decide +kernel)) (ce_var C 0 n0 (by decide +kernel))) ca_nil))))))) (cs_cons (c1_set C 2 n2 s2 (ce_ofN (cn_cat (ce_var C 2 n2 (by decide +kernel)) (ce_ofN (cn_lst (ca_cons (ce_isx C hX "NoTruth" (by decide +kernel) hb_isinstance (by decide +kernel) (by decide +kernel) (fun z => absurd z (by decide +kernel)) (ce_var C 0 n0 (by decide +kernel))) (ca_cons (ce_isx C hX "NoPlan" (by decide +kernel) hb_isinstance (by decide +kernel) (by decide +kernel) (fun z => absurd z (by decide +kernel)) (ce_var C 0 n0 (by decide +kernel))) (ca_cons (ce_isx C hX "NoBook" (by decide +kernel) hb_isinstance (by decide +kernel) (by decide +kernel) (fun z => absurd z (by decide +kernel)) (ce_var C 0 n0 (by decide +kernel))) (ca_cons (ce_isx C hX "TooGreat" (by decide +kernel) hb_isinstance (by decide +kernel) (by decide +kernel) (fun z => absurd z (by decide +kernel)) (ce_var C 0 n0 (by decide +kernel))) ca_nil))))))))) (cs_cons (c1_set C 2 n2 s2 (ce_ofN (cn_cat (ce_var C 2 n2 (by decide +kernel)) (ce_ofN (cn_lst (ca_cons (ce_isx C hX "NoText" (by decide +kernel) hb_isinstance (by decide +kernel) (by decide +kernel) (fun z => absurd z (by decide +kernel)) (ce_var C 0 n0 (by decide +kernel))) (ca_cons (ce_isx C hX "NoName" (by decide +kernel) hb_isinstance (by decide +kernel) (by decide +kernel) (fun z => absurd z (by decide +kernel)) (ce_var C 0 n0 (by decide +kernel))) (ca_cons (ce_isx C hX "NothingTold" (by decide +kernel) hb_isinstance (by decide +kernel) (by decide +kernel) (fun z => absurd z (by decide +kernel)) (ce_var C 0 n0 (by decide +kernel))) (ca_cons (ce_isx C hX "NoRow" (by decide +kernel) hb_isinstance (by decide +kernel) (by decide +kernel) (fun z => absurd z (by decide +kernel)) (ce_var C 0 n0 (by decide +kernel))) ca_nil))))))))) (cs_cons (c1_ret (ce_and (ce_isx C hX "HuntError" (by decide +kernel) hb_isinstance (by decide +kernel) (by decide +kernel) (fun z => absurd z (by decide +kernel)) (ce_var C 0 n0 (by decide +kernel))) (ce_and (ce_isx C hX "ValueError" (by decide +kernel) hb_isinstance (by decide +kernel) (by decide +kernel) (fun _ => hb_ValueError) (ce_var C 0 n0 (by decide +kernel))) (ce_and (ce_var C 1 n1 (by decide +kernel)) (ce_one (ce_eq C (ce_cnt (ce_var C 2 n2 (by decide +kernel)) ce_bool) ce_int)))))) cs_nil))))
theorem okq_qis_alone {P : Program} {w : World} {K : PySem.W.Frag} {mg : Str → Option Value} {base : Heap} (E : Env K mg) : GvQ P w K mg base (0 + 1) "_law_is_alone" [] (spU K mg u_qis_alone) := by
  obtain ⟨f, fd, F, hmg⟩ := E.d_qis_alone
  exact ⟨f, fd, _, [], foq_qis_alone E F, hmg, F.kp, F.bindsN fun _ _ _ _ _ _ us hl => match us, hl with | [_, _], _ => rfl, .nil⟩

def b_qrefused : DS := (bSeq (bSetX 3 (xE (dC .none))) (bSeq (bTry ["NoMake", "NoTrial"] 4 "HuntError" (bSeq (bExprX (xCall u_p_speaks_against [] (dAc (dVar 0) (dAc (dVar 1) (dAc (dVar 2) dA0))))) bNil) (bSeq (bSetX 3 (xC (nL (dLst (dAc (eX (xCall u_qis_alone [] (dAc (dVar 4) (dAc (dIsx ["NoMake", "NoTrial"] ["NoMake"] (dVar 4)) dA0)))) dA0))))) (bSeq (bIf (dTst (dIxB (dVar 3) (dC (.int 0)))) (bSeq (bExpr (dLm 3 qAppend (dAc (dFrz (dAtt ["NoMake", "NoTrial"] "make" (dVar 4))) dA0))) bNil) bNil) bNil))) (bSeq (bRet (dCmp kEq (dVar 3) (dOfN (dLst (dAc (dC (.bool true)) (dAc (dFrz (dVar 2)) dA0)))))) bNil)))
def u_qrefused : List Ar → R (Rs × List Sl) := runB 5 3 b_qrefused
theorem sc_qrefused : FnScope ["_law_net_here", "_law_trial", "_law_make", "_law_told", "_law_e"] ["_law_net_here", "_law_trial", "_law_make"] (defScope (top 32)) := ⟨rfl, rfl, rfl, by decide +kernel, rfl, by decide +kernel, by decide +kernel⟩
theorem fo_qrefused {P : Program} {w : World} {K : PySem.W.Frag} {mg : Str → Option Value} {base : Heap} (E : Env K mg) {f : Addr} {fd : FuncData} (F : FunD K "_law_refused" "_law_refused" (defArgs (top 32)) (defBody (top 32)) (defScope (top 32)) [] [] f fd) : FnOk P w K mg base (L2.CX P w) (4 + 1) f fd ["_law_net_here", "_law_trial", "_law_make"] (spU K mg u_qrefused) := by
  refine fn_u (N := ["_law_net_here", "_law_trial", "_law_make", "_law_told", "_law_e"]) (ps := ["_law_net_here", "_law_trial", "_law_make"]) (k := 4) F sc_qrefused (b := b_qrefused) (by decide) fun X W h => ?_
  have C := h.cf
  have hb_isinstance : X.mg "isinstance" = none := by rw [h.mg]; exact E.b_isinstance
  have c_p_speaks_against := (ok_p_speaks_against (P := P) (w := w) (base := base) E).u h (by omega)
  have hX : XAll X.K X.mg ["NoMake", "NoTrial"] ["HuntError", "NoBook", "NoMake", "NoName", "NoNet", "NoOrder", "NoPlan", "NoRow", "NoText", "NoTrial", "NoTruth", "NothingTold", "TooGreat", "ValueError"] ["HuntError"] ["make", "place"] := by rw [h.K, h.mg]; exact E.x_all
  have q_qis_alone := (okq_qis_alone (P := P) (w := w) (base := base) E).u h (by omega)
  have n0 : (["_law_net_here", "_law_trial", "_law_make", "_law_told", "_law_e"] : List Str)[0]? = some ("_law_net_here" : Str) := rfl
  have v0 : visB (defScope (top 32)) "_law_net_here" = true := by decide +kernel
  have s0 : Sto X (defScope (top 32)) "_law_net_here" := sto_c h.fn (by decide +kernel)
  have n1 : (["_law_net_here", "_law_trial", "_law_make", "_law_told", "_law_e"] : List Str)[1]? = some ("_law_trial" : Str) := rfl
  have v1 : visB (defScope (top 32)) "_law_trial" = true := by decide +kernel
  have s1 : Sto X (defScope (top 32)) "_law_trial" := sto_c h.fn (by decide +kernel)
  have n2 : (["_law_net_here", "_law_trial", "_law_make", "_law_told", "_law_e"] : List Str)[2]? = some ("_law_make" : Str) := rfl
  have v2 : visB (defScope (top 32)) "_law_make" = true := by decide +kernel
  have s2 : Sto X (defScope (top 32)) "_law_make" := sto_c h.fn (by decide +kernel)
  have n3 : (["_law_net_here", "_law_trial", "_law_make", "_law_told", "_law_e"] : List Str)[3]? = some ("_law_told" : Str) := rfl
  have v3 : visB (defScope (top 32)) "_law_told" = true := by decide +kernel
  have s3 : Sto X (defScope (top 32)) "_law_told" := sto_c h.fn (by decide +kernel)
  have n4 : (["_law_net_here", "_law_trial", "_law_make", "_law_told", "_law_e"] : List Str)[4]? = some ("_law_e" : Str) := rfl
  have v4 : visB (defScope (top 32)) "_law_e" = true := by decide +kernel
  have s4 : Sto X (defScope (top 32)) "_law_e" := sto_c h.fn (by decide +kernel)
  unfold b_qrefused
  exact (cs_cons (c1_setX C.toCf0 3 n3 s3 (cx_e ce_none)) (cs_cons (c1_try C hX 4 h.stk h.frm n4 (by decide +kernel) (by decide +kernel) (by decide +kernel) (fun pn xe W1 C => (cs_cons (c1_exprX (cx_call C.toCf0 c_p_speaks_against.tr (by decide +kernel) (fun _ _ => .nil) (ca_cons (ce_var C.toCf0 0 n0 (by decide +kernel)) (ca_cons (ce_var C.toCf0 1 n1 (by decide +kernel)) (ca_cons (ce_var C.toCf0 2 n2 (by decide +kernel)) ca_nil))))) cs_nil)) (fun xa pn C => (cs_cons (c1_setX C 3 n3 s3 (cx_c (cc_l (cn_lst (ca_cons (ce_x (cx_callQ C (q_qis_alone.suite xa pn) (by decide +kernel) (fun _ _ => .nil) (ca_cons (ce_var C 4 n4 (by decide +kernel)) (ca_cons (ce_isx C hX "NoMake" (by decide +kernel) hb_isinstance (by decide +kernel) (by decide +kernel) (fun z => absurd z (by decide +kernel)) (ce_var C 4 n4 (by decide +kernel))) ca_nil)))) ca_nil))))) (cs_cons (c1_if (ct_of (ce_ixB C (ce_var C 3 n3 (by decide +kernel)) ce_int)) (cs_cons (c1_expr (ce_append C 3 n3 (by decide +kernel) (ce_att C hX (n := "make") (by decide +kernel) (ce_var C 4 n4 (by decide +kernel))))) cs_nil) cs_nil) cs_nil)))) (cs_cons (c1_ret (ce_eq C.toCf0 (ce_var C.toCf0 3 n3 (by decide +kernel)) (ce_ofN (cn_lst (ca_cons ce_bool (ca_cons (ce_frz (ce_var C.toCf0 2 n2 (by decide +kernel))) ca_nil)))))) cs_nil)))

theorem ok_qrefused {P : Program} {w : World} {K : PySem.W.Frag} {mg : Str → Option Value} {base : Heap} (E : Env K mg) : Gv P w K mg base (4 + 1) "_law_refused" [] (spU K mg u_qrefused) := by
  obtain ⟨f, fd, F, hmg⟩ := E.d_qrefused
  exact Gv.of F hmg (fo_qrefused E F) (F.bindsN fun _ _ _ _ _ _ us hl => match us, hl with | [_, _, _], _ => rfl) .nil

theorem sc_qfar : FnScope ["_law_feed_here", "_law_many", "_law_far_here"] ["_law_feed_here", "_law_many"] (defScope (top 29)) := ⟨rfl, rfl, rfl, by decide +kernel, rfl, by decide +kernel, by decide +kernel⟩
theorem fo_qfar {P : Program} {w : World} {K : PySem.W.Frag} {mg : Str → Option Value} {base : Heap} (E : Env K mg) {f : Addr} {fd : FuncData} (F : FunD K "_law_far" "_law_far" (defArgs (top 29)) (defBody (top 29)) (defScope (top 29)) [] [] f fd) : FnOk P w K mg base (L2.CX P w) (1 + 1) f fd ["_law_feed_here", "_law_many"] (spU K mg u_qfar) := by
  refine fn_u (N := ["_law_feed_here", "_law_many", "_law_far_here"]) (ps := ["_law_feed_here", "_law_many"]) (k := 1) F sc_qfar (b := b_qfar) (by decide) fun X W h => ?_
  have C := h.cf
  have c_qtake := (ok_qtake (P := P) (w := w) (base := base) E).u h (by omega)
  have n0 : (["_law_feed_here", "_law_many", "_law_far_here"] : List Str)[0]? = some ("_law_feed_here" : Str) := rfl
  have v0 : visB (defScope (top 29)) "_law_feed_here" = true := by decide +kernel
  have s0 : Sto X (defScope (top 29)) "_law_feed_here" := sto_c h.fn (by decide +kernel)
  have n1 : (["_law_feed_here", "_law_many", "_law_far_here"] : List Str)[1]? = some ("_law_many" : Str) := rfl
  have v1 : visB (defScope (top 29)) "_law_many" = true := by decide +kernel
  have s1 : Sto X (defScope (top 29)) "_law_many" := sto_c h.fn (by decide +kernel)
  have n2 : (["_law_feed_here", "_law_many", "_law_far_here"] : List Str)[2]? = some ("_law_far_here" : Str) := rfl
  have v2 : visB (defScope (top 29)) "_law_far_here" = true := by decide +kernel
  have s2 : Sto X (defScope (top 29)) "_law_far_here" := sto_c h.fn (by decide +kernel)
  unfold b_qfar
  exact (cs_cons (c1_set C.toCf0 2 n2 s2 (ce_mul (ce_x (cx_callC C.toCf0 0 c_qtake (by decide +kernel) (fun _ _ => .nil) (ca_cons (ce_var C.toCf0 0 n0 (by decide +kernel)) (ca_cons ce_int ca_nil)))) (ce_pow (ce_x (cx_callC C.toCf0 0 c_qtake (by decide +kernel) (fun _ _ => .nil) (ca_cons (ce_var C.toCf0 0 n0 (by decide +kernel)) (ca_cons (ce_pow ce_int ce_int) ca_nil)))) ce_int))) (cs_cons (c1_ret (ce_ixB C.toCf0 (ce_ofN (cn_lst (ca_cons (ce_sub (ce_neg ce_int) (ce_var C.toCf0 2 n2 (by decide +kernel))) (ca_cons (ce_add (ce_var C.toCf0 1 n1 (by decide +kernel)) (ce_var C.toCf0 2 n2 (by decide +kernel))) ca_nil)))) (ce_x (cx_callC C.toCf0 0 c_qtake (by decide +kernel) (fun _ _ => .nil) (ca_cons (ce_var C.toCf0 0 n0 (by decide +kernel)) (ca_cons ce_int ca_nil)))))) cs_nil))

theorem ok_qfar {P : Program} {w : World} {K : PySem.W.Frag} {mg : Str → Option Value} {base : Heap} (E : Env K mg) : Gv P w K mg base (1 + 1) "_law_far" [] (spU K mg u_qfar) := by
  obtain ⟨f, fd, F, hmg⟩ := E.d_qfar
  exact Gv.of F hmg (fo_qfar E F) (F.bindsN fun _ _ _ _ _ _ us hl => match us, hl with | [_, _], _ => rfl) .nil

def b_p_law : DS := (bSeq (bFor [1, 2, 3, 4, 5, 6, 7, 8] (gN 1) (iRange1 (dB kMax2 (dAc (dC (.int 1)) (dAc (dB kMin2 (dAc (dB kLen (dAc (dVar 0) dA0)) (dAc (dC (.int 6)) dA0))) dA0)))) (bSeq (bSetX 2 (xCall u_qfeed [] (dAc (dVar 0) (dAc (dVar 1) dA0)))) (bSeq (bSet 3 (eX (xCallC u_qnet_k12 0 [] (dAc (dVar 2) (dAc (dIxB (dOfN (dLst (dAc (dC (.int 12)) (dAc (dC (.int 40)) dA0)))) (dB kInt (dAc (dAnd (dCmp kEq (dVar 1) (dC (.int 0))) (dCmp kEq (eX (xCallC u_qtake 0 [] (dAc (dVar 2) (dAc (dC (.int 8)) dA0)))) (dC (.int 5)))) dA0))) dA0))))) (bSeq (bSet 4 (eX (xCall u_qfrom [] (dAc (dVar 3) dA0)))) (bSeq (bFor [5, 6, 7, 8] (gN 5) (iRange1 (dC (.int 4))) (bSeq (bSet 6 (eX (xCallC u_qtake 0 [] (dAc (dVar 2) (dAc (dB kLen (dAc (dVar 3) dA0)) dA0))))) (bSeq (bFor [7, 8] (gN 7) (iSeq (dTup (dAc (dC (.str "good")) (dAc (dC (.str "bad")) (dAc (dC (.str "cannot")) dA0))))) (bSeq (bFor [8] (gN 8) (iSeq (eX (xCallC u_qspread 0 [] (dAc (dVar 2) (dAc (dVar 3) dA0))))) (bSeq (bIf (dTnot (dTst (eX (xCall u_qright [] (dAc (dVar 3) (dAc (dVar 4) (dAc (dTup (dAc (dFrz (dVar 6)) (dAc (dFrz (dVar 7)) dA0))) (dAc (dVar 8) dA0)))))))) (bSeq (bRet (dC (.bool false))) bNil) bNil) bNil)) (bSeq (bIf (dTnot (dTst (eX (xCall u_qrefused [] (dAc (dVar 3) (dAc (dTup (dAc (dFrz (dVar 6)) (dAc (dFrz (dVar 7)) dA0))) (dAc (eX (xCallC u_qfar 0 [] (dAc (dVar 2) (dAc (dB kLen (dAc (dVar 3) dA0)) dA0)))) dA0))))))) (bSeq (bRet (dC (.bool false))) bNil) bNil) bNil))) bNil))) bNil))))) (bSeq (bRet (dC (.bool true))) bNil))
def u_p_law : List Ar → R (Rs × List Sl) := runB 9 1 b_p_law
theorem sc_p_law : FnScope ["_law_script", "_law_k", "_law_feed_here", "_law_net_here", "_law_olds", "_law_turn", "_law_tried", "_law_answer", "_law_make"] ["_law_script"] (defScope (top 34)) := ⟨rfl, rfl, rfl, by decide +kernel, rfl, by decide +kernel, by decide +kernel⟩
theorem fo_p_law {P : Program} {w : World} {K : PySem.W.Frag} {mg : Str → Option Value} {base : Heap} (E : Env K mg) {f : Addr} {fd : FuncData} (F : FunD K "law" "law" (defArgs (top 34)) (defBody (top 34)) (defScope (top 34)) [] [] f fd) : FnOk P w K mg base (L2.CX P w) (5 + 1) f fd ["_law_script"] (spU K mg u_p_law) := by
  refine fn_u (N := ["_law_script", "_law_k", "_law_feed_here", "_law_net_here", "_law_olds", "_law_turn", "_law_tried", "_law_answer", "_law_make"]) (ps := ["_law_script"]) (k := 5) F sc_p_law (b := b_p_law) (by decide) fun X W h => ?_
  have C := h.cf
  have hb_range : X.mg "range" = none := by rw [h.mg]; exact E.b_range
  have hb_max : X.mg "max" = none := by rw [h.mg]; exact E.b_max
  have hb_min : X.mg "min" = none := by rw [h.mg]; exact E.b_min
  have hb_len : X.mg "len" = none := by rw [h.mg]; exact E.b_len
  have hb_int : X.mg "int" = none := by rw [h.mg]; exact E.b_int
  have c_qfeed := (ok_qfeed (P := P) (w := w) (base := base) E).u h (by omega)
  have c_qnet := (ok_qnet (P := P) (w := w) (base := base) E).u h (by omega)
  have c_qtake := (ok_qtake (P := P) (w := w) (base := base) E).u h (by omega)
  have c_qfrom := (ok_qfrom (P := P) (w := w) (base := base) E).u h (by omega)
  have c_qspread := (ok_qspread (P := P) (w := w) (base := base) E).u h (by omega)
  have c_qright := (ok_qright (P := P) (w := w) (base := base) E).u h (by omega)
  have c_qrefused := (ok_qrefused (P := P) (w := w) (base := base) E).u h (by omega)
  have c_qfar := (ok_qfar (P := P) (w := w) (base := base) E).u h (by omega)
  have n0 : (["_law_script", "_law_k", "_law_feed_here", "_law_net_here", "_law_olds", "_law_turn", "_law_tried", "_law_answer", "_law_make"] : List Str)[0]? = some ("_law_script" : Str) := rfl
  have v0 : visB (defScope (top 34)) "_law_script" = true := by decide +kernel
  have s0 : Sto X (defScope (top 34)) "_law_script" := sto_c h.fn (by decide +kernel)
  have n1 : (["_law_script", "_law_k", "_law_feed_here", "_law_net_here", "_law_olds", "_law_turn", "_law_tried", "_law_answer", "_law_make"] : List Str)[1]? = some ("_law_k" : Str) := rfl
  have v1 : visB (defScope (top 34)) "_law_k" = true := by decide +kernel
  have s1 : Sto X (defScope (top 34)) "_law_k" := sto_c h.fn (by decide +kernel)
  have n2 : (["_law_script", "_law_k", "_law_feed_here", "_law_net_here", "_law_olds", "_law_turn", "_law_tried", "_law_answer", "_law_make"] : List Str)[2]? = some ("_law_feed_here" : Str) := rfl
  have v2 : visB (defScope (top 34)) "_law_feed_here" = true := by decide +kernel
  have s2 : Sto X (defScope (top 34)) "_law_feed_here" := sto_c h.fn (by decide +kernel)
  have n3 : (["_law_script", "_law_k", "_law_feed_here", "_law_net_here", "_law_olds", "_law_turn", "_law_tried", "_law_answer", "_law_make"] : List Str)[3]? = some ("_law_net_here" : Str) := rfl
  have v3 : visB (defScope (top 34)) "_law_net_here" = true := by decide +kernel
  have s3 : Sto X (defScope (top 34)) "_law_net_here" := sto_c h.fn (by decide +kernel)
  have n4 : (["_law_script", "_law_k", "_law_feed_here", "_law_net_here", "_law_olds", "_law_turn", "_law_tried", "_law_answer", "_law_make"] : List Str)[4]? = some ("_law_olds" : Str) := rfl
  have v4 : visB (defScope (top 34)) "_law_olds" = true := by decide +kernel
  have s4 : Sto X (defScope (top 34)) "_law_olds" := sto_c h.fn (by decide +kernel)
  have n5 : (["_law_script", "_law_k", "_law_feed_here", "_law_net_here", "_law_olds", "_law_turn", "_law_tried", "_law_answer", "_law_make"] : List Str)[5]? = some ("_law_turn" : Str) := rfl
  have v5 : visB (defScope (top 34)) "_law_turn" = true := by decide +kernel
  have s5 : Sto X (defScope (top 34)) "_law_turn" := sto_c h.fn (by decide +kernel)
  have n6 : (["_law_script", "_law_k", "_law_feed_here", "_law_net_here", "_law_olds", "_law_turn", "_law_tried", "_law_answer", "_law_make"] : List Str)[6]? = some ("_law_tried" : Str) := rfl
  have v6 : visB (defScope (top 34)) "_law_tried" = true := by decide +kernel
  have s6 : Sto X (defScope (top 34)) "_law_tried" := sto_c h.fn (by decide +kernel)
  have n7 : (["_law_script", "_law_k", "_law_feed_here", "_law_net_here", "_law_olds", "_law_turn", "_law_tried", "_law_answer", "_law_make"] : List Str)[7]? = some ("_law_answer" : Str) := rfl
  have v7 : visB (defScope (top 34)) "_law_answer" = true := by decide +kernel
  have s7 : Sto X (defScope (top 34)) "_law_answer" := sto_c h.fn (by decide +kernel)
  have n8 : (["_law_script", "_law_k", "_law_feed_here", "_law_net_here", "_law_olds", "_law_turn", "_law_tried", "_law_answer", "_law_make"] : List Str)[8]? = some ("_law_make" : Str) := rfl
  have v8 : visB (defScope (top 34)) "_law_make" = true := by decide +kernel
  have s8 : Sto X (defScope (top 34)) "_law_make" := sto_c h.fn (by decide +kernel)
  unfold b_p_law
  exact (cs_cons (c1_for C [1, 2, 3, 4, 5, 6, 7, 8] (ci_range1 C.toCf0 (by decide +kernel) hb_range (ce_max2 C (by decide +kernel) hb_max (ca_cons ce_int (ca_cons (ce_min2 C (by decide +kernel) hb_min (ca_cons (ce_len C.toCf0 (by decide +kernel) hb_len (ca_cons (ce_var C.toCf0 0 n0 (by decide +kernel)) ca_nil)) (ca_cons ce_int ca_nil))) ca_nil)))) (cg_name C.toCf0 1 n1 s1) (cs_cons (c1_setX C.toCf0 2 n2 s2 (cx_call C.toCf0 c_qfeed (by decide +kernel) (fun _ _ => .nil) (ca_cons (ce_var C.toCf0 0 n0 (by decide +kernel)) (ca_cons (ce_var C.toCf0 1 n1 (by decide +kernel)) ca_nil)))) (cs_cons (c1_set C.toCf0 3 n3 s3 (ce_x (cx_callC C.toCf0 0 c_qnet (by decide +kernel) (fun _ _ => .nil) (ca_cons (ce_var C.toCf0 2 n2 (by decide +kernel)) (ca_cons (ce_ixB C.toCf0 (ce_ofN (cn_lst (ca_cons ce_int (ca_cons ce_int ca_nil)))) (ce_intc C.toCf0 (by decide +kernel) hb_int (ca_cons (ce_and (ce_eq C.toCf0 (ce_var C.toCf0 1 n1 (by decide +kernel)) ce_int) (ce_one (ce_eq C.toCf0 (ce_x (cx_callC C.toCf0 0 c_qtake (by decide +kernel) (fun _ _ => .nil) (ca_cons (ce_var C.toCf0 2 n2 (by decide +kernel)) (ca_cons ce_int ca_nil)))) ce_int))) ca_nil))) ca_nil))))) (cs_cons (c1_set C.toCf0 4 n4 s4 (ce_x (cx_call C.toCf0 c_qfrom (by decide +kernel) (fun _ _ => .nil) (ca_cons (ce_var C.toCf0 3 n3 (by decide +kernel)) ca_nil)))) (cs_cons (c1_for C [5, 6, 7, 8] (ci_range1 C.toCf0 (by decide +kernel) hb_range ce_int) (cg_name C.toCf0 5 n5 s5) (cs_cons (c1_set C.toCf0 6 n6 s6 (ce_x (cx_callC C.toCf0 0 c_qtake (by decide +kernel) (fun _ _ => .nil) (ca_cons (ce_var C.toCf0 2 n2 (by decide +kernel)) (ca_cons (ce_len C.toCf0 (by decide +kernel) hb_len (ca_cons (ce_var C.toCf0 3 n3 (by decide +kernel)) ca_nil)) ca_nil))))) (cs_cons (c1_for C [7, 8] (ci_seq (ce_tup (ca_cons ce_str (ca_cons ce_str (ca_cons ce_str ca_nil))))) (cg_name C.toCf0 7 n7 s7) (cs_cons (c1_for C [8] (ci_seq (ce_x (cx_callC C.toCf0 0 c_qspread (by decide +kernel) (fun _ _ => .nil) (ca_cons (ce_var C.toCf0 2 n2 (by decide +kernel)) (ca_cons (ce_var C.toCf0 3 n3 (by decide +kernel)) ca_nil))))) (cg_name C.toCf0 8 n8 s8) (cs_cons (c1_if (ct_not (ct_of (ce_x (cx_call C.toCf0 c_qright (by decide +kernel) (fun _ _ => .nil) (ca_cons (ce_var C.toCf0 3 n3 (by decide +kernel)) (ca_cons (ce_var C.toCf0 4 n4 (by decide +kernel)) (ca_cons (ce_tup (ca_cons (ce_frz (ce_var C.toCf0 6 n6 (by decide +kernel))) (ca_cons (ce_frz (ce_var C.toCf0 7 n7 (by decide +kernel))) ca_nil))) (ca_cons (ce_var C.toCf0 8 n8 (by decide +kernel)) ca_nil)))))))) (cs_cons (c1_ret ce_bool) cs_nil) cs_nil) cs_nil)) (cs_cons (c1_if (ct_not (ct_of (ce_x (cx_call C.toCf0 c_qrefused (by decide +kernel) (fun _ _ => .nil) (ca_cons (ce_var C.toCf0 3 n3 (by decide +kernel)) (ca_cons (ce_tup (ca_cons (ce_frz (ce_var C.toCf0 6 n6 (by decide +kernel))) (ca_cons (ce_frz (ce_var C.toCf0 7 n7 (by decide +kernel))) ca_nil))) (ca_cons (ce_x (cx_callC C.toCf0 0 c_qfar (by decide +kernel) (fun _ _ => .nil) (ca_cons (ce_var C.toCf0 2 n2 (by decide +kernel)) (ca_cons (ce_len C.toCf0 (by decide +kernel) hb_len (ca_cons (ce_var C.toCf0 3 n3 (by decide +kernel)) ca_nil)) ca_nil)))) ca_nil))))))) (cs_cons (c1_ret ce_bool) cs_nil) cs_nil) cs_nil))) cs_nil))) cs_nil))))) (cs_cons (c1_ret ce_bool) cs_nil))

end PDW


set_option linter.all false
set_option maxRecDepth 100000
set_option autoImplicit false
/-! short tactics -/
namespace PD
open PySem L2
theorem as_call {m : List Ar → R (Rs × List Sl)} {as : List Ar} {z : Rs × List Sl} (h : m as = .val z) : m as = .val z := h
local macro_rules
  | `(tactic| array_get_dec) => `(tactic| with_reducible first
  | exact e_C | exact a_nil | exact k_sub | exact k_and | exact k_or | exact k_eqI | exact k_neI | exact k_I | exact k_mx2 | exact k_mn2
  | apply e_I | apply e_add | apply e_neg | apply e_cmp | apply t_tst | apply t_not | apply e_not | apply t_or | apply t_and | apply e_and | apply e_or
  | apply k_mul | apply k_div | apply k_mod | apply k_pow | apply k_shl | apply k_shr
  | apply a_cons | apply n_lst | apply e_tup | apply e_ofN | apply c_l | apply x_c | apply e_B | apply n_B | apply e_isi
  | apply e_x | apply x_call | apply x_callE | apply x_callM | apply e_frzT | apply e_ap | apply i_seqL | apply i_seqT | apply i_enumL | apply i_enumT | apply i_range1 | apply i_range2 | apply n_lrng1 | apply n_lrng2)
local macro_rules
  | `(tactic| array_mem_dec) => `(tactic| repeat' first | exact e_frz (e_var rfl) | array_get_dec | exact e_var rfl | exact e_varO rfl | exact e_varI rfl | (refine as_call ?_; assumption) | exact k_neS | exact k_eqS | exact e_pop rfl | exact e_ixT (e_var rfl) e_C rfl | exact e_ixL (e_var rfl) e_C rfl | exact e_ixS (e_varI rfl) e_C rfl rfl | exact e_ixS (e_varO rfl) e_C rfl rfl | exact k_ninKS rfl | exact k_inKS rfl | exact k_lenI rfl | exact k_lenJ rfl | rfl | exact flat_int _ | (intro _))
local macro_rules
  | `(tactic| and_intros) => `(tactic| repeat (with_reducible first | apply w_seqN | apply w_seqA))
local macro_rules
  | `(tactic| bv_decide) => `(tactic| (and_intros; (with_reducible first | apply w_set | apply w_setX | apply w_setC | apply w_setG | apply w_expr | apply w_exprX | apply w_inc); array_mem_dec))
local macro_rules
  | `(tactic| bv_normalize) => `(tactic| (and_intros; apply w_ifN; array_mem_dec; (try (case hz => first | rfl | (simp [tyIs, isN, optI]; done) | (simp [tyIs, isN, optI]; omega))); and_intros))
local macro_rules
  | `(tactic| simp_all_arith) => `(tactic| (and_intros; apply w_ifY; array_mem_dec; (try (case hz => first | rfl | (simp [tyIs, isN, optI]; done) | (simp [tyIs, isN, optI]; omega))); and_intros))
local macro_rules
  | `(tactic| apply_assumption) => `(tactic| (and_intros; apply w_ifB; focus array_mem_dec))
local macro_rules
  | `(tactic| nofun) => `(tactic| (and_intros; (with_reducible first | apply w_ret | apply w_retX | apply w_retC | apply w_retO | apply w_ret0); array_mem_dec))
local macro_rules
  | `(tactic| ac_rfl) => `(tactic| (all_goals (try (with_reducible first | exact mulL (by decide) | exact mulR (by decide) | exact mulR (by omega) | exact mulL (by omega) | exact mulL (mod_64 (by decide) (by decide)) | exact modP (by first | assumption | decide | omega) | exact divP (by first | assumption | decide | omega) (by first | assumption | decide | omega) | exact cRng_of (by omega) (by omega) (by omega) (by omega)))))
end PD

section
open PySem L2 PD
local macro_rules
  | `(tactic| array_get_dec) => `(tactic| with_reducible first
  | exact e_C | exact a_nil | exact k_sub | exact k_and | exact k_or | exact k_eqI | exact k_neI | exact k_I | exact k_mx2 | exact k_mn2
  | apply e_I | apply e_add | apply e_neg | apply e_cmp | apply t_tst | apply t_not | apply e_not | apply t_or | apply t_and | apply e_and | apply e_or
  | apply k_mul | apply k_div | apply k_mod | apply k_pow | apply k_shl | apply k_shr
  | apply a_cons | apply n_lst | apply e_tup | apply e_ofN | apply c_l | apply x_c | apply e_B | apply n_B | apply e_isi
  | apply e_x | apply x_call | apply x_callE | apply x_callM | apply e_frzT | apply e_ap | apply i_seqL | apply i_seqT | apply i_enumL | apply i_enumT | apply i_range1 | apply i_range2 | apply n_lrng1 | apply n_lrng2)
local macro_rules
  | `(tactic| array_mem_dec) => `(tactic| repeat' first | exact e_frz (e_var rfl) | array_get_dec | exact e_var rfl | exact e_varO rfl | exact e_varI rfl | (refine as_call ?_; assumption) | exact k_neS | exact k_eqS | exact e_pop rfl | exact e_ixT (e_var rfl) e_C rfl | exact e_ixL (e_var rfl) e_C rfl | exact e_ixS (e_varI rfl) e_C rfl rfl | exact e_ixS (e_varO rfl) e_C rfl rfl | exact k_ninKS rfl | exact k_inKS rfl | exact k_lenI rfl | exact k_lenJ rfl | rfl | exact flat_int _ | (intro _))
local macro_rules
  | `(tactic| and_intros) => `(tactic| repeat (with_reducible first | apply w_seqN | apply w_seqA))
local macro_rules
  | `(tactic| bv_decide) => `(tactic| (and_intros; (with_reducible first | apply w_set | apply w_setX | apply w_setC | apply w_setG | apply w_expr | apply w_exprX | apply w_inc); array_mem_dec))
local macro_rules
  | `(tactic| bv_normalize) => `(tactic| (and_intros; apply w_ifN; array_mem_dec; (try (case hz => first | rfl | (simp [tyIs, isN, optI]; done) | (simp [tyIs, isN, optI]; omega))); and_intros))
local macro_rules
  | `(tactic| simp_all_arith) => `(tactic| (and_intros; apply w_ifY; array_mem_dec; (try (case hz => first | rfl | (simp [tyIs, isN, optI]; done) | (simp [tyIs, isN, optI]; omega))); and_intros))
local macro_rules
  | `(tactic| apply_assumption) => `(tactic| (and_intros; apply w_ifB; focus array_mem_dec))
local macro_rules
  | `(tactic| nofun) => `(tactic| (and_intros; (with_reducible first | apply w_ret | apply w_retX | apply w_retC | apply w_retO | apply w_ret0); array_mem_dec))
local macro_rules
  | `(tactic| ac_rfl) => `(tactic| (all_goals (try (with_reducible first | exact mulL (by decide) | exact mulR (by decide) | exact mulR (by omega) | exact mulL (by omega) | exact mulL (mod_64 (by decide) (by decide)) | exact modP (by first | assumption | decide | omega) | exact divP (by first | assumption | decide | omega) (by first | assumption | decide | omega) | exact cRng_of (by omega) (by omega) (by omega) (by omega)))))

set_option linter.all false
set_option maxRecDepth 100000
set_option autoImplicit false
/-! plain: mirrors that raise -/
namespace PD
open PySem L2
/-- a block ends by an exception -/
def WE (b : DS) (Γ : List Sl) (x : Exn) : Prop := b Γ = .exc x
section
variable {Γ Γ1 Γ2 : List Sl} {f g : DF} {b r r2 c2 : DS} {x : DX} {t : DT} {fr z : Bool} {d : PyData} {P : Fw → List Sl → Prop} {m i : Nat} {y : Exn} {k : DA} {as : List AV} {ds : List PyData}
theorem we_here (h : b Γ = .exc y) : WE (bSeq b r) Γ y := by
  unfold WE bSeq
  rw [h]; rfl
theorem we_on (h : b Γ = .val (.nx, Γ1)) (h2 : WE r Γ1 y) : WE (bSeq b r) Γ y := by
  unfold WE bSeq
  rw [h]; exact h2
theorem we_seqN (h : WE r Γ y) : WE (bSeq bNil r) Γ y := h
theorem we_seqA (h : WE (bSeq b (bSeq r r2)) Γ y) : WE (bSeq (bSeq b r) r2) Γ y := by
  have e : bSeq (bSeq b r) r2 Γ = bSeq b (bSeq r r2) Γ := by
    unfold bSeq
    rw [R.bind_assoc]
    congr 1
    funext z
    obtain ⟨w, Γ1⟩ := z
    cases w <;> rfl
  unfold WE
  rw [e]
  exact h
theorem we_ifY (h1 : t Γ = .val (z, Γ1)) (hz : z = true) (h : WE (bSeq b r) Γ1 y) : WE (bSeq (bIf t b c2) r) Γ y := by
  subst hz
  have e : bSeq (bIf t b c2) r Γ = bSeq b r Γ1 := by
    unfold bSeq bIf
    rw [h1, bind_val]; rfl
  unfold WE
  rw [e]; exact h
theorem we_ifN (h1 : t Γ = .val (z, Γ1)) (hz : z = false) (h : WE (bSeq c2 r) Γ1 y) : WE (bSeq (bIf t b c2) r) Γ y := by
  subst hz
  have e : bSeq (bIf t b c2) r Γ = bSeq c2 r Γ1 := by
    unfold bSeq bIf
    rw [h1, bind_val]; rfl
  unfold WE
  rw [e]; exact h
theorem we_raise {c : Str} {fns : List Str} (h1 : k Γ = .val (as, Γ1)) (h2 : allF as = some (ds, true)) (h3 : ds.length = fns.length) (hy : y = ⟨c, (fns.zip ds).reverse, Γ1⟩) : WE (bSeq (bRaise c fns k) r) Γ y :=
  we_here (by unfold bRaise; rw [h1, bind_val]; simp only [h2]; rw [if_pos h3, hy])
theorem we_exprX (h : x Γ = .exc y) : WE (bSeq (bExprX x) r) Γ y := we_here (by unfold bExprX; rw [h]; rfl)
theorem we_expr (h : f Γ = .exc y) : WE (bSeq (bExpr f) r) Γ y := we_here (by unfold bExpr; rw [h]; rfl)
theorem we_retX (h : x Γ = .exc y) : WE (bSeq (bRetX x) r) Γ y := we_here (by unfold bRetX; rw [h]; rfl)
theorem we_ret (h : f Γ = .exc y) : WE (bSeq (bRet f) r) Γ y := we_here (by unfold bRet; rw [h]; rfl)
theorem we_setF (h : f Γ = .exc y) : WE (bSeq (bSet m f) r) Γ y := we_here (by unfold bSet; rw [h]; rfl)
theorem we_setXF (h : x Γ = .exc y) : WE (bSeq (bSetX m x) r) Γ y := we_here (by unfold bSetX; rw [h]; rfl)
theorem we_oset (h1 : f Γ = .val (.d fr d, Γ1)) (h : WE r (Γ1.set m (.dat fr d)) y) : WE (bSeq (bSet m f) r) Γ y := we_on (by unfold bSet; rw [h1]; rfl) h
theorem we_osetX {s : Rs} (h1 : x Γ = .val (s, Γ1)) (h : WE r (Γ1.set m (rsS s)) y) : WE (bSeq (bSetX m x) r) Γ y := we_on (by unfold bSetX; rw [h1]; rfl) h
theorem we_oexprX {s : Rs} {e : PyData} (h1 : x Γ = .val (s, Γ1)) (h2 : rsF s = some e) (h : WE r Γ1 y) : WE (bSeq (bExprX x) r) Γ y := we_on (by unfold bExprX; rw [h1, bind_val, h2]; rfl) h
theorem we_oexpr {a : AV} (h1 : f Γ = .val (a, Γ1)) (h : WE r Γ1 y) : WE (bSeq (bExpr f) r) Γ y := we_on (by unfold bExpr; rw [h1]; rfl) h
theorem x_callX {mm : List Ar → R (Rs × List Sl)} {dds : List PyData} (h1 : k Γ = .val (as, Γ1)) (h2 : rdDs Γ1 none as = some ds) (h3 : mm ((ds ++ dds).map Ar.d) = .exc y) : xCall mm dds k Γ = .exc ⟨y.cls, y.flds, Γ1⟩ := by
  unfold xCall; rw [h1, bind_val, h2, ofO_some, bind_val, h3]; rfl
theorem e_xX (h1 : x Γ = .exc y) : eX x Γ = .exc y := by unfold eX; rw [h1]; rfl
/-- a def that raises -/
theorem run_x {n np : Nat} {b : DS} {as : List Ar} {Z : List Sl} (hl : as.length = np) (h : WE b (initS n as) y) (hz : cellsAt as y.st = some Z) : runB n np b as = .exc ⟨y.cls, y.flds, Z⟩ := by
  unfold runB
  have e : (as.length == np) = true := by rw [hl]; exact beq_self_eq_true _
  unfold WE at h
  rw [e, req_true, bind_val, h]
  show (R.ofO (cellsAt as y.st)).bind _ = _
  rw [hz]; rfl
/-- a loop over items, the one at j raising -/
theorem we_for {is : List Nat} {gg : DG} {it : DI} {yy : List PyData × Bool} (Inv : Nat → List Sl → Prop) (j : Nat) (h1 : it Γ = .val (yy, Γ1)) (h0 : Inv 0 (wipeG Γ1 is)) (hj : j < yy.1.length)
    (hb : ∀ i d Γ, i < j → yy.1[i]? = some d → Inv i Γ → ∃ Γ1, gg yy.2 d Γ = some Γ1 ∧ W b Γ1 fun w Γ2 => (w = .nx ∨ w = .ct) ∧ Inv (i + 1) (wipeG Γ2 is))
    (hx : ∀ d Γ, yy.1[j]? = some d → Inv j Γ → ∃ Γ1, gg yy.2 d Γ = some Γ1 ∧ WE b Γ1 y) : WE (bSeq (bFor is gg it b) r) Γ y := by
  refine we_here ?_
  unfold bFor
  rw [h1, bind_val]
  have key : ∀ (n : Nat) (xs : List PyData) (Γ : List Sl), (∀ q, xs[q]? = yy.1[n + q]?) → n ≤ j → Inv n (wipeG Γ is) → loopU is gg yy.2 b xs Γ = .exc y := by
    intro n xs
    induction xs generalizing n with
    | nil =>
      intro Γ hq hn _
      have := hq (j - n)
      rw [show n + (j - n) = j by omega, List.getElem?_eq_getElem hj] at this
      simp at this
    | cons d xs ih =>
      intro Γ hq hn hi
      have h0 : yy.1[n]? = some d := by have := hq 0; simpa using this.symm
      unfold loopU
      by_cases e : n = j
      · subst e
        obtain ⟨Γ1, e1, e2⟩ := hx d _ h0 hi
        unfold WE at e2
        rw [e1, ofO_some, bind_val, e2]; rfl
      · obtain ⟨Γ1, e1, o⟩ := hb n d _ (by omega) h0 hi
        obtain ⟨z, ez, hw, hz⟩ := o
        obtain ⟨w, Γ2⟩ := z
        rw [e1, ofO_some, bind_val, ez, bind_val]
        have hq' : ∀ q, xs[q]? = yy.1[n + 1 + q]? := fun q => by
          have := hq (q + 1)
          simp only [List.getElem?_cons_succ] at this
          rw [this]; congr 1; omega
        rcases hw with rfl | rfl
        · exact ih (n + 1) Γ2 hq' (by omega) hz
        · exact ih (n + 1) Γ2 hq' (by omega) hz
  exact key 0 yy.1 Γ1 (fun q => by simp) (by omega) h0
/-! ## try -/
theorem w_try0 {xs : List Str} {D : Str} {s : DS} (h : W b Γ fun w Γ1 => match w with
    | .nx => W r Γ1 P
    | w => P w Γ1) : W (bSeq (bTry xs i D b s) r) Γ P := by
  refine w_seq ?_
  obtain ⟨z, e, q⟩ := h
  refine ⟨z, ?_, q⟩
  unfold bTry
  rw [e]
theorem w_tryX {xs : List Str} {D : Str} {s : DS} (h : WE b Γ y) (hc : xs.contains y.cls = true) (hD : exIs y.cls D = true) (hs : W s (y.st.set i (.dat true (xcD y.cls y.flds))) fun w Γ1 => match w with
    | .nx => W r (Γ1.set i .un) P
    | w => P w (Γ1.set i .un)) : W (bSeq (bTry xs i D b s) r) Γ P := by
  refine w_seq ?_
  obtain ⟨z, e, q⟩ := hs
  obtain ⟨w, Γ1⟩ := z
  refine ⟨(w, Γ1.set i .un), ?_, ?_⟩
  · unfold bTry
    unfold WE at h
    rw [h]
    dsimp only
    rw [if_pos hc, if_pos hD, e]
  · cases w <;> exact q
/-! ## what is asked of an exception -/
theorem e_isxN {xs Ds : List Str} (h1 : f Γ = .val (.d fr .none, Γ1)) : dIsx xs Ds f Γ = .val (.d true (.bool false), Γ1) := by unfold dIsx; rw [h1]; rfl
theorem e_isx {xs Ds : List Str} {c : Str} {kvs : List (PyData × PyData)} (h1 : f Γ = .val (.d fr (.dict ((.none, .str c) :: kvs)), Γ1)) (hc : xs.contains c = true) (hz : Ds.any (exIs c) = z) : dIsx xs Ds f Γ = .val (.d true (.bool z), Γ1) := by
  unfold dIsx; rw [h1, bind_val]; simp only [hc, hz]; rfl
theorem e_att {xs : List Str} {n c : Str} {kvs : List (PyData × PyData)} (h1 : f Γ = .val (.d fr (.dict ((.none, .str c) :: kvs)), Γ1)) (hc : xs.contains c = true) (hf : fldA n kvs = some d) : dAtt xs n f Γ = .val (.d fr d, Γ1) := by
  unfold dAtt; rw [h1, bind_val]; simp only [hc, hf]; rfl
end
local macro_rules
  | `(tactic| injections) => `(tactic| repeat (with_reducible first | apply we_seqN | apply we_seqA))
local macro_rules
  | `(tactic| false_or_by_contra) => `(tactic| (injections; apply we_ifN; array_mem_dec; (try (case hz => first | rfl | (simp [tyIs, isN, optI]; done) | (simp [tyIs, isN, optI]; omega))); injections))
local macro_rules
  | `(tactic| subst_eqs) => `(tactic| (injections; apply we_ifY; array_mem_dec; (try (case hz => first | rfl | (simp [tyIs, isN, optI]; done) | (simp [tyIs, isN, optI]; omega))); injections))
end PD

section
open PySem L2 PD
local macro_rules
  | `(tactic| injections) => `(tactic| repeat (with_reducible first | apply we_seqN | apply we_seqA))
local macro_rules
  | `(tactic| false_or_by_contra) => `(tactic| (injections; apply we_ifN; array_mem_dec; (try (case hz => first | rfl | (simp [tyIs, isN, optI]; done) | (simp [tyIs, isN, optI]; omega))); injections))
local macro_rules
  | `(tactic| subst_eqs) => `(tactic| (injections; apply we_ifY; array_mem_dec; (try (case hz => first | rfl | (simp [tyIs, isN, optI]; done) | (simp [tyIs, isN, optI]; omega))); injections))

set_option linter.all false
set_option maxRecDepth 100000
set_option autoImplicit false
namespace PD
open PySem L2
/-! ## ways in a net -/
def El (net : List (List Int)) (m e : Nat) : Prop := ∃ row, net[m]? = some row ∧ ((e : Nat) : Int) ∈ row
inductive Wk (net : List (List Int)) (y : Nat) : Nat → Nat → Prop
  | nil : Wk net y y 0
  | snoc {m n e : Nat} : Wk net y m n → El net m e → Wk net y e (n + 1)
theorem wk0 {net : List (List Int)} {y o : Nat} (h : Wk net y o 0) : o = y := by cases h; rfl
theorem wkS {net : List (List Int)} {y o n : Nat} (h : Wk net y o (n + 1)) : ∃ m, Wk net y m n ∧ El net m o := by
  cases h with
  | snoc a b => exact ⟨_, a, b⟩
theorem El.lt {net : List (List Int)} (hN : NetOk net) {m e : Nat} (h : El net m e) : e < m := by
  obtain ⟨row, h1, h2⟩ := h
  have := ((hN m row h1).1 _ h2).2
  omega
theorem Wk.le {net : List (List Int)} (hN : NetOk net) {y o n : Nat} (h : Wk net y o n) : o + n ≤ y := by
  induction h with
  | nil => omega
  | snoc a b ih => have := b.lt hN; omega
def Lst (S : Nat → Prop) : Option Nat → Prop
  | none => ∀ n, ¬ S n
  | some n => S n ∧ ∀ k, S k → n ≤ k
theorem lst_uniq {S : Nat → Prop} {a b : Option Nat} (h : Lst S a) (h' : Lst S b) : a = b := by
  cases a with
  | none =>
    cases b with
    | none => rfl
    | some n => exact absurd h'.1 (h n)
  | some m =>
    cases b with
    | none => exact absurd h.1 (h' m)
    | some n =>
      have := h.2 n h'.1
      have := h'.2 m h.1
      congr 1; omega
theorem lst_iff {S T : Nat → Prop} {a : Option Nat} (h : Lst S a) (e : ∀ n, S n ↔ T n) : Lst T a := by
  cases a with
  | none => exact fun n => fun z => h n ((e n).mpr z)
  | some n => exact ⟨(e n).mp h.1, fun k z => h.2 k ((e k).mpr z)⟩
theorem lst_ex (S : Nat → Prop) : ∃ a, Lst S a := by
  have key : ∀ n, (∃ k, k < n ∧ S k) → ∃ a, Lst S (some a) := by
    intro n
    induction n with
    | zero => rintro ⟨k, h, _⟩; omega
    | succ n ih =>
      intro h
      by_cases h2 : ∃ k, k < n ∧ S k
      · exact ih h2
      · obtain ⟨k, h3, h4⟩ := h
        refine ⟨k, h4, fun j hj => ?_⟩
        have : ¬ j < n := fun z => h2 ⟨j, z, hj⟩
        omega
  by_cases h : ∃ n, S n
  · obtain ⟨n, hn⟩ := h
    obtain ⟨a, ha⟩ := key (n + 1) ⟨n, by omega, hn⟩
    exact ⟨some a, ha⟩
  · exact ⟨none, fun n hn => h ⟨n, hn⟩⟩
/-- one more that may be the least -/
theorem lst_more {S : Nat → Prop} {a : Option Nat} {b : Nat} (h : Lst S a) : Lst (fun n => S n ∨ n = b) (match a with | none => some b | some k => if b < k then some b else some k) := by
  cases a with
  | none => exact ⟨.inr rfl, fun k hk => by rcases hk with hk | hk; exact absurd hk (h k); omega⟩
  | some k =>
    show Lst _ (if b < k then some b else some k)
    split
    · exact ⟨.inr rfl, fun j hj => by rcases hj with hj | hj; (have := h.2 j hj; omega); omega⟩
    · exact ⟨.inl h.1, fun j hj => by rcases hj with hj | hj; exact h.2 j hj; omega⟩
abbrev Ds (net : List (List Int)) (y o : Nat) (a : Option Nat) : Prop := Lst (Wk net y o) a
theorem ds_pred {net : List (List Int)} {y o n : Nat} (h : Ds net y o (some (n + 1))) : ∃ m, Ds net y m (some n) ∧ El net m o := by
  obtain ⟨m, h1, h2⟩ := wkS h.1
  refine ⟨m, ⟨h1, fun k hk => ?_⟩, h2⟩
  have := h.2 (k + 1) (.snoc hk h2)
  omega
/-- the walks whose last step begins at k or above -/
def Qk (net : List (List Int)) (y k m : Nat) (n : Nat) : Prop := (m = y ∧ n = 0) ∨ ∃ p n', k ≤ p ∧ Wk net y p n' ∧ El net p m ∧ n = n' + 1
theorem qk_wk {net : List (List Int)} (hN : NetOk net) {y k m n : Nat} (hk : k ≤ m + 1) : Qk net y k m n ↔ Wk net y m n := by
  constructor
  · rintro (⟨rfl, rfl⟩ | ⟨p, n', _, h1, h2, rfl⟩)
    · exact .nil
    · exact .snoc h1 h2
  · intro h
    cases h with
    | nil => exact .inl ⟨rfl, rfl⟩
    | snoc a b => exact .inr ⟨_, _, by have := b.lt hN; omega, a, b, rfl⟩
theorem qk_top {net : List (List Int)} (hN : NetOk net) {y m n : Nat} : Qk net y (y + 1) m n ↔ m = y ∧ n = 0 := by
  constructor
  · rintro (h | ⟨p, n', h0, h1, h2, rfl⟩)
    · exact h
    · have := h1.le hN; omega
  · exact .inl
theorem qk_step {net : List (List Int)} {y k m n : Nat} : Qk net y k m n ↔ Qk net y (k + 1) m n ∨ (El net k m ∧ ∃ n', Wk net y k n' ∧ n = n' + 1) := by
  constructor
  · rintro (h | ⟨p, n', h0, h1, h2, rfl⟩)
    · exact .inl (.inl h)
    · by_cases e : p = k
      · subst e; exact .inr ⟨h2, n', h1, rfl⟩
      · exact .inl (.inr ⟨p, n', by omega, h1, h2, rfl⟩)
  · rintro ((h | ⟨p, n', h0, h1, h2, rfl⟩) | ⟨h2, n', h1, rfl⟩)
    · exact .inl h
    · exact .inr ⟨p, n', by omega, h1, h2, rfl⟩
    · exact .inr ⟨k, n', Nat.le_refl _, h1, h2, rfl⟩
def oN : Option Nat → Option Int
  | none => none
  | some n => some (n : Int)
/-- what the steps' row tells -/
def StOk (len : Nat) (st : List (Option Nat)) (S : Nat → Nat → Prop) : Prop := st.length = len ∧ ∀ (m : Nat) (a : Option Nat), st[m]? = some a → Lst (S m) a
theorem StOk.iff {len : Nat} {st : List (Option Nat)} {S T : Nat → Nat → Prop} (h : StOk len st S) (e : ∀ m n, S m n ↔ T m n) : StOk len st T := ⟨h.1, fun m a ha => lst_iff (h.2 m a ha) (e m)⟩
theorem el_net {rows : List (List Int)} {m e : Nat} : El (netR rows) m e ↔ El rows m e := by
  unfold El netR
  rw [List.getElem?_map]
  constructor
  · rintro ⟨row, h1, h2⟩
    cases h : rows[m]? with
    | none => rw [h] at h1; cases h1
    | some r => rw [h] at h1; cases h1; exact ⟨r, rfl, sortI_mem.mp h2⟩
  · rintro ⟨row, h1, h2⟩
    rw [h1]
    exact ⟨_, rfl, sortI_mem.mpr h2⟩
end PD


set_option linter.all false
set_option maxRecDepth 100000
set_option autoImplicit false
namespace PD
open PySem L2
theorem check_q (net : List (List Int)) (y : Int) (h0 : 0 ≤ y) (h1 : y < (net.length : Int)) : u_p_check_make [.d (dTT net), .d (.int y)] = .val (.d .none, [.un, .un]) := by
  refine ok_eq (ok_run rfl ?_)
  unfold b_p_check_make
  bv_normalize
  exact w_nil ⟨_, _, rfl, rfl, rfl⟩
theorem nodup_len : ∀ (n : Nat) (xs : List Int), xs.Nodup → (∀ x ∈ xs, 0 ≤ x ∧ x < (n : Int)) → xs.length ≤ n
  | 0, xs, _, h => by
    cases xs with
    | nil => simp
    | cons a r => have := h a (by simp); omega
  | n + 1, xs, hn, h => by
    have h1 := nodup_len n (xs.filter fun x => decide (x ≠ (n : Int))) (hn.sublist List.filter_sublist) fun x hx => by
      have q := List.mem_filter.mp hx
      have q1 := h x q.1
      have q2 : x ≠ (n : Int) := by simpa using q.2
      omega
    have h2 : (xs.filter fun x => decide (x ≠ (n : Int))).length + xs.count (n : Int) = xs.length := by
      have : xs.count (n : Int) = (xs.filter fun x => !decide (x ≠ (n : Int))).length := by
        rw [List.count_eq_length_filter]
        congr 1
        apply List.filter_congr
        intro x _
        by_cases e : x = (n : Int) <;> simp [e]
      rw [this]
      exact filt_sum (fun x => decide (x ≠ (n : Int))) xs
    have h3 : xs.count (n : Int) ≤ 1 := List.nodup_iff_count.mp hn _
    show xs.length ≤ n + 1
    have h1 : (xs.filter fun x => decide (x ≠ (n : Int))).length ≤ n := h1
    generalize (xs.filter fun x => decide (x ≠ (n : Int))).length = q at h1 h2
    omega
structure Mid (net : List (List Int)) (y L : Nat) (E : Nat → Prop) (kvs : List (Int × PyData)) (found : List Int) : Prop where
  has : ∀ e : Nat, (lookI kvs (e : Int)).isSome = true ↔ (∃ n, n ≤ L ∧ Wk net y e n) ∨ E e
  nat : ∀ k ∈ kvs.map (·.1), 0 ≤ k ∧ k < ((y + 1 : Nat) : Int)
  val : ∀ (e : Nat) (v : PyData), lookI kvs (e : Int) = some v → (e = y ∧ v = .none) ∨ ∃ m n : Nat, v = .int (m : Int) ∧ Ds net y m (some n) ∧ Ds net y e (some (n + 1)) ∧ El net m e
  fnd : ∀ x : Int, x ∈ found ↔ ∃ e : Nat, x = (e : Int) ∧ E e ∧ ¬ ∃ n, n ≤ L ∧ Wk net y e n
  nd : (kvs.map (·.1)).Nodup
  fl : found.length ≤ kvs.length
  fv : ∀ z ∈ kvs, flat z.2 = true
theorem Mid.len {net : List (List Int)} {y L : Nat} {E : Nat → Prop} {kvs : List (Int × PyData)} {found : List Int} (h : Mid net y L E kvs found) : kvs.length ≤ y + 1 := by
  have := nodup_len (y + 1) _ h.nd h.nat
  rw [List.length_map] at this
  exact this
theorem Mid.iff {net : List (List Int)} {y L : Nat} {E E' : Nat → Prop} {kvs : List (Int × PyData)} {found : List Int} (h : Mid net y L E kvs found) (e : ∀ x, E x ↔ E' x) : Mid net y L E' kvs found := by
  have : E = E' := funext fun x => propext (e x)
  subst this
  exact h
theorem Mid.old {net : List (List Int)} {y L : Nat} {E : Nat → Prop} {kvs : List (Int × PyData)} {found : List Int} (h : Mid net y L E kvs found) {e : Nat} (he : (lookI kvs (e : Int)).isSome = true) : Mid net y L (fun x => E x ∨ x = e) kvs found := by
  refine ⟨fun x => ?_, h.nat, h.val, fun x => ?_, h.nd, h.fl, h.fv⟩
  · rw [h.has]
    constructor
    · rintro (a | a)
      · exact .inl a
      · exact .inr (.inl a)
    · rintro (a | a | a)
      · exact .inl a
      · exact .inr a
      · subst a; exact (h.has _).mp he
  · rw [h.fnd]
    constructor
    · rintro ⟨z, h1, h2, h3⟩
      exact ⟨z, h1, .inl h2, h3⟩
    · rintro ⟨z, h1, h2 | h2, h3⟩
      · exact ⟨z, h1, h2, h3⟩
      · subst h2
        exact ⟨z, h1, ((h.has z).mp he).resolve_left h3, h3⟩
theorem Mid.new {net : List (List Int)} (hN : NetOk net) {y L : Nat} {E : Nat → Prop} {kvs : List (Int × PyData)} {found : List Int} (h : Mid net y L E kvs found) {m e : Nat} (he : lookI kvs (e : Int) = none) (hm : Ds net y m (some L)) (hl : El net m e) :
    Mid net y L (fun x => E x ∨ x = e) (putI kvs (e : Int) (.int (m : Int))) (found ++ [(e : Int)]) := by
  have hno : ¬ ((∃ n, n ≤ L ∧ Wk net y e n) ∨ E e) := fun z => by
    have := (h.has e).mpr z
    rw [he] at this; cases this
  have hle := (Wk.snoc hm.1 hl).le hN
  refine ⟨fun x => ?_, ?_, fun x v hv => ?_, fun x => ?_, ?_, ?_, ?_⟩
  · rw [lookI_put]
    by_cases q : ((x : Nat) : Int) = (e : Nat)
    · rw [if_pos q]
      have : x = e := by omega
      simp [this]
    · rw [if_neg q, h.has]
      have : x ≠ e := by omega
      simp [this]
  · rw [putI_new _ he]
    intro k hk
    rw [List.map_append, List.mem_append] at hk
    rcases hk with hk | hk
    · exact h.nat k hk
    · have : k = (e : Int) := by simpa using hk
      omega
  · rw [lookI_put] at hv
    by_cases q : ((x : Nat) : Int) = (e : Nat)
    · rw [if_pos q] at hv
      have : x = e := by omega
      subst this
      cases hv
      refine .inr ⟨m, L, rfl, hm, ⟨.snoc hm.1 hl, fun k hk => ?_⟩, hl⟩
      by_cases z : k ≤ L
      · exact absurd (.inl ⟨k, z, hk⟩) hno
      · omega
    · rw [if_neg q] at hv
      exact h.val x v hv
  · rw [List.mem_append, h.fnd]
    constructor
    · rintro (⟨z, h1, h2, h3⟩ | h1)
      · exact ⟨z, h1, .inl h2, h3⟩
      · exact ⟨e, by simpa using h1, .inr rfl, fun z => hno (.inl z)⟩
    · rintro ⟨z, h1, h2 | h2, h3⟩
      · exact .inl ⟨z, h1, h2, h3⟩
      · subst h2; exact .inr (by simp [h1])
  · rw [putI_new _ he, List.map_append, List.nodup_append]
    refine ⟨h.nd, by simp, fun a ha b hb => ?_⟩
    have : b = (e : Int) := by simpa using hb
    subst this
    rintro rfl
    obtain ⟨z, hz, hz2⟩ := List.mem_map.mp ha
    exact lookI_none.mp he z.2 (by rw [← hz2]; exact hz)
  · rw [putI_new _ he]
    have := h.fl
    simp; omega
  · rw [putI_new _ he]
    intro z hz
    rcases List.mem_append.mp hz with hz | hz
    · exact h.fv z hz
    · have : z = ((e : Int), PyData.int (m : Int)) := by simpa using hz
      subst this; rfl
theorem flatA_of : ∀ {ds : List PyData}, (∀ d ∈ ds, flat d = true) → flat.flatA ds = true
  | [], _ => rfl
  | d :: ds, h => by simp only [flat.flatA, Bool.and_eq_true]; exact ⟨h d (by simp), flatA_of fun x hx => h x (by simp [hx])⟩
theorem Mid.fc {net : List (List Int)} {y L : Nat} {E : Nat → Prop} {kvs : List (Int × PyData)} {found : List Int} (h : Mid net y L E kvs found) : (Cl.dic .k (dKV kvs)).fl = true := rfl
abbrev YOk (net : List (List Int)) (y L : Nat) (kvs : List (Int × PyData)) : Prop := Mid net y L (fun _ => False) kvs []
def Fr (net : List (List Int)) (y L : Nat) (row : List Int) : Prop := ∀ x : Int, x ∈ row ↔ ∃ m : Nat, x = (m : Int) ∧ Ds net y m (some L)
theorem mid_end {net : List (List Int)} {y L : Nat} {kvs : List (Int × PyData)} {found : List Int} (h : Mid net y L (fun e => ∃ m, Ds net y m (some L) ∧ El net m e) kvs found) : YOk net y (L + 1) kvs ∧ Fr net y (L + 1) found := by
  have key : ∀ e : Nat, (∃ n, n ≤ L + 1 ∧ Wk net y e n) ↔ (∃ n, n ≤ L ∧ Wk net y e n) ∨ ∃ m, Ds net y m (some L) ∧ El net m e := fun e => by
    constructor
    · rintro ⟨n, h1, h2⟩
      by_cases q : n ≤ L
      · exact .inl ⟨n, q, h2⟩
      · have : n = L + 1 := by omega
        subst this
        obtain ⟨m, h3, h4⟩ := wkS h2
        by_cases q2 : ∃ n, n ≤ L ∧ Wk net y e n
        · exact .inl q2
        · refine .inr ⟨m, ⟨h3, fun k hk => ?_⟩, h4⟩
          by_cases q3 : L ≤ k
          · exact q3
          · exact absurd ⟨k + 1, by omega, .snoc hk h4⟩ q2
    · rintro (⟨n, h1, h2⟩ | ⟨m, h1, h2⟩)
      · exact ⟨n, by omega, h2⟩
      · exact ⟨L + 1, Nat.le_refl _, .snoc h1.1 h2⟩
  refine ⟨⟨fun e => ?_, h.nat, h.val, by simp, h.nd, by simp, h.fv⟩, fun x => ?_⟩
  · rw [h.has, ← key]; simp
  · rw [h.fnd]
    constructor
    · rintro ⟨e, rfl, ⟨m, h1, h2⟩, h3⟩
      refine ⟨e, rfl, .snoc h1.1 h2, fun k hk => ?_⟩
      by_cases q : k ≤ L
      · exact absurd ⟨k, q, hk⟩ h3
      · omega
    · rintro ⟨e, rfl, h1⟩
      refine ⟨e, rfl, ds_pred h1, fun ⟨n, h2, h3⟩ => ?_⟩
      have := h1.2 n h3
      omega
theorem nextRow_q (net : List (List Int)) (hN : NetOk net) (y L : Nat) (hy : y < net.length) (hy2 : y ≤ 1000) (kvs : List (Int × PyData)) (row : List Int) (hk : YOk net y L kvs) (hr : Fr net y L row) :
    ∃ found kvs', u_p_next_row [.d (dTT net), .c (.dic .k (dKV kvs)), .d (dL row)] = .val (.c (.lst (found.map PyData.int)), [.un, .io (.dic .k (dKV kvs')), .un]) ∧ YOk net y (L + 1) kvs' ∧ Fr net y (L + 1) found := by
  have key : Ok (u_p_next_row [.d (dTT net), .c (.dic .k (dKV kvs)), .d (dL row)]) fun z => ∃ found kvs', z = (.c (.lst (found.map PyData.int)), [.un, .io (.dic .k (dKV kvs')), .un]) ∧ YOk net y (L + 1) kvs' ∧ Fr net y (L + 1) found := by
    refine ok_run rfl ?_
    unfold b_p_next_row
    bv_decide
    refine w_forL (enc := PyData.int) row (S := List (Int × PyData) × List Int) (fun i s => Mid net y L (fun e => ∃ m : Nat, (m : Int) ∈ row.take i ∧ El net m e) s.1 s.2)
      (fun s => [.dat false (dTT net), .io (.dic .k (dKV s.1)), .dat false (dL row), .own (.lst (s.2.map PyData.int)), .un, .un]) (kvs, []) (i_seqL (e_var rfl)) rfl (hk.iff fun x => by simp) ?_ ?_
    · rintro i x ⟨kv, fo⟩ hx hM
      dsimp only at hM ⊢
      obtain ⟨m, rfl, hm⟩ := (hr x).mp (mem_at hx)
      have hmy := hm.1.le hN
      obtain ⟨els, hels⟩ : ∃ els, net[m]? = some els := ⟨_, List.getElem?_eq_getElem (by omega)⟩
      refine ⟨_, rfl, ?_⟩
      refine w_forL (enc := PyData.int) els (S := List (Int × PyData) × List Int) (fun j s => Mid net y L (fun e => (∃ m : Nat, (m : Int) ∈ row.take i ∧ El net m e) ∨ (e : Int) ∈ els.take j) s.1 s.2)
        (fun s => [.dat false (dTT net), .io (.dic .k (dKV s.1)), .dat false (dL row), .own (.lst (s.2.map PyData.int)), .dat false (.int (m : Nat)), .un]) (kv, fo) (i_seqT (e_ixT (e_var rfl) (e_var rfl) (at_nat hels))) rfl (hM.iff fun x => by simp) ?_ ?_
      · rintro j x ⟨kv, fo⟩ hx2 hM
        dsimp only at hM ⊢
        have hx3 := (hN m els hels).1 x (mem_at hx2)
        obtain ⟨e, rfl⟩ : ∃ e : Nat, x = (e : Int) := ⟨x.toNat, by omega⟩
        have hel : El net m e := ⟨els, hels, mem_at hx2⟩
        have step : ∀ z : Nat, ((∃ m : Nat, (m : Int) ∈ row.take i ∧ El net m z) ∨ (z : Int) ∈ els.take j) ∨ z = e ↔ (∃ m : Nat, (m : Int) ∈ row.take i ∧ El net m z) ∨ (z : Int) ∈ els.take (j + 1) := fun z => by
          rw [take_step hx2, List.mem_append, or_assoc]
          have : z = e ↔ (z : Int) ∈ [(e : Int)] := by simp; omega
          rw [this]
        have hl := hM.len
        have hfl := hM.fl
        refine ⟨_, rfl, ?_⟩
        apply w_if
        · apply t_tst
          apply e_cmp
          · exact e_var rfl
          · exact e_varI rfl
          · exact k_ninKS rfl
        · intro hz
          have hz : lookI kv (e : Int) = none := by simpa using hz
          apply w_seqA
          apply w_put
          · exact e_frzT (e_var rfl) rfl
          · rfl
          · exact e_var rfl
          · rfl
          · exact putC_kv (by omega)
          apply w_seqA
          apply w_expr
          · apply e_ap
            · rfl
            · exact e_frzT (e_var rfl) rfl
            · rfl
            · exact ltS_map (by omega)
          apply w_seqN
          exact w_nil ⟨(_, fo ++ [(e : Int)]), by rw [List.map_append]; rfl, (hM.new hN hz hm hel).iff step⟩
        · intro hz
          apply w_seqN
          exact w_nil ⟨(kv, fo), rfl, (hM.old (by simpa using hz)).iff step⟩
      · rintro ⟨kv, fo⟩ hM
        refine w_nil ⟨(kv, fo), rfl, hM.iff fun z => ?_⟩
        rw [List.take_length, take_step hx]
        constructor
        · rintro (⟨p, h1, h2⟩ | h)
          · exact ⟨p, List.mem_append.mpr (.inl h1), h2⟩
          · exact ⟨m, by simp, els, hels, h⟩
        · rintro ⟨p, h1, h2⟩
          rcases List.mem_append.mp h1 with h1 | h1
          · exact .inl ⟨p, h1, h2⟩
          · have : p = m := by have : (p : Int) = m := by simpa using h1
                               omega
            subst this
            obtain ⟨r, h3, h4⟩ := h2
            rw [hels] at h3; cases h3
            exact .inr h4
    · rintro ⟨kv, fo⟩ hM
      rw [List.take_length] at hM
      have hE := mid_end (hM.iff (E' := fun e => ∃ m, Ds net y m (some L) ∧ El net m e) fun z => by
        constructor
        · rintro ⟨p, h1, h2⟩
          obtain ⟨q, h3, h4⟩ := (hr _).mp h1
          have : p = q := by omega
          subst this
          exact ⟨p, h4, h2⟩
        · rintro ⟨p, h1, h2⟩
          exact ⟨p, (hr _).mpr ⟨p, rfl, h1⟩, h2⟩)
      apply w_retO rfl
      exact ⟨_, _, rfl, rfl, fo, kv, rfl, hE⟩
  obtain ⟨z, e, found, kvs', rfl, h⟩ := key
  exact ⟨found, kvs', e, h⟩
theorem y0 (net : List (List Int)) (y : Nat) : YOk net y 0 [((y : Int), .none)] where
  has := fun e => by
    rw [lookI_cons, lookI_nil]
    simp only [Nat.le_zero_eq, or_false, exists_eq_left]
    constructor
    · intro h
      by_cases q : (y : Int) = (e : Int)
      · have : y = e := by omega
        subst this; exact .nil
      · rw [if_neg q] at h; cases h
    · intro h
      have := wk0 h
      subst this
      simp
  nat := by simp; omega
  val := fun e v h => by
    rw [lookI_cons, lookI_nil] at h
    by_cases q : (y : Int) = (e : Int)
    · rw [if_pos q] at h; cases h; exact .inl ⟨by omega, rfl⟩
    · rw [if_neg q] at h; cases h
  fnd := by simp
  nd := by simp
  fl := by simp
  fv := by simp [flat]
theorem fr0 (net : List (List Int)) (y : Nat) : Fr net y 0 [(y : Int)] := fun x => by
  constructor
  · intro h
    have : x = (y : Int) := by simpa using h
    exact ⟨y, this, .nil, fun _ _ => Nat.zero_le _⟩
  · rintro ⟨m, rfl, h⟩
    have := wk0 h.1
    subst this; simp
/-- what a way is -/
structure WayOk (net : List (List Int)) (y o n : Nat) (w : List Nat) : Prop where
  len : w.length = n + 1
  fst : w[0]? = some y
  lst : w[n]? = some o
  stp : ∀ (k a b : Nat), w[k]? = some a → w[k + 1]? = some b → El net a b
theorem at_last {α : Type} {xs : List α} {f : α → PyData} {x : α} : atI ((xs ++ [x]).map f) (-1) = some (f x) := by
  have : ixN ((xs ++ [x]).map f).length (-1) = some xs.length := by
    unfold ixN
    rw [List.length_map, List.length_append]
    simp
    omega
  unfold atI
  rw [this]
  simp
theorem wayTo_q (net : List (List Int)) (hN : NetOk net) (y o : Nat) (hl : net.length ≤ 1000) (hy : y < net.length) (ho : o < net.length) :
    (∃ n w, Ds net y o (some n) ∧ u_p_way_to [.d (dTT net), .d (.int (y : Nat)), .d (.int (o : Nat))] = .val (.c (.lst (w.map fun x : Nat => PyData.int (x : Int))), [.un, .un, .un]) ∧ WayOk net y o n w) ∨
    (Ds net y o none ∧ u_p_way_to [.d (dTT net), .d (.int (y : Nat)), .d (.int (o : Nat))] = .val (.d .none, [.un, .un, .un])) := by
  have key : Ok (u_p_way_to [.d (dTT net), .d (.int (y : Nat)), .d (.int (o : Nat))]) fun z => (∃ n w, Ds net y o (some n) ∧ z = (.c (.lst (w.map fun x : Nat => PyData.int (x : Int))), [.un, .un, .un]) ∧ WayOk net y o n w) ∨ (Ds net y o none ∧ z = (.d .none, [.un, .un, .un])) := by
    refine ok_run rfl ?_
    unfold b_p_way_to
    have c1 := check_q net (y : Int) (by omega) (by omega)
    have c2 := check_q net (o : Int) (by omega) (by omega)
    bv_decide
    bv_decide
    apply w_setX
    · exact x_c (show nDic1 1 .none _ = _ from rfl)
    bv_decide
    refine w_whileS (S := Nat × List (Int × PyData) × List Int) (fun s => YOk net y s.1 s.2.1 ∧ Fr net y s.1 s.2.2) (fun s => y + 2 - s.1)
      (fun s => [.dat false (dTT net), .dat true (.int (y : Nat)), .dat true (.int (o : Nat)), .own (.dic .k (dKV s.2.1)), .dat true (dL s.2.2), .un]) (0, [((y : Int), .none)], [(y : Int)]) rfl ⟨y0 net y, fr0 net y⟩ (by show y + 2 - 0 < 1000000; omega) ?_
    rintro ⟨L, kvs, row⟩ ⟨hY, hF⟩
    dsimp only at hY hF ⊢
    refine ⟨_, _, t_and (t_tst (e_cmp (e_var rfl) (e_ofN (n_lst a_nil rfl rfl)) (k_neT (eqt_list eqt_int) (by decide) (x := row) (y := []) rfl rfl))) (fun _ => t_tst (e_cmp (e_var rfl) (e_varO rfl) (k_ninKS rfl))), fun hz => ?_, fun hz => ?_⟩
    · have hne : row ≠ [] := by
        intro e; subst e; simp at hz
      obtain ⟨x, hx⟩ : ∃ x, x ∈ row := List.exists_mem_of_ne_nil row hne
      obtain ⟨m, rfl, hm⟩ := (hF x).mp hx
      have hle := hm.1.le hN
      obtain ⟨found, kvs', hq, h1, h2⟩ := nextRow_q net hN y L hy (by omega) kvs row hY hF
      apply w_set
      · apply e_x
        · apply x_callC
          · exact a_cons (e_var rfl) (a_cons (e_varO rfl) (a_cons (e_var rfl) a_nil))
          · rfl
          · rfl
          · rfl
          · exact hY.fc
          · exact hq
          · rfl
        · rfl
      exact w_nil ⟨(L + 1, kvs', found), rfl, ⟨h1, h2⟩, by show y + 2 - (L + 1) < y + 2 - L; omega⟩
    · by_cases hs : (lookI kvs (o : Int)).isSome = true
      · have hdo : ∃ n, Ds net y o (some n) := by
          obtain ⟨a, ha⟩ := lst_ex (Wk net y o)
          cases a with
          | some n => exact ⟨n, ha⟩
          | none =>
            rcases (hY.has o).mp hs with ⟨n, _, h⟩ | h
            · exact absurd h (ha n)
            · exact h.elim
        obtain ⟨N, hdN⟩ := hdo
        have hNy := hdN.1.le hN
        bv_normalize
        bv_decide
        -- the way back
        have stp : ∀ (n m : Nat), n < N → Ds net y m (some (n + 1)) → (lookI kvs (m : Int)).isSome = true → ∃ p, lookI kvs (m : Int) = some (.int ((p : Nat) : Int)) ∧ Ds net y p (some n) ∧ El net p m ∧ (lookI kvs (p : Int)).isSome = true := by
          intro n m hn hm hs
          obtain ⟨v, hv⟩ := Option.isSome_iff_exists.mp hs
          rcases hY.val m v hv with ⟨rfl, rfl⟩ | ⟨p, k, rfl, h1, h2, h3⟩
          · have := hm.2 0 .nil
            omega
          · have e := lst_uniq h2 hm
            have e : k = n := by cases e; rfl
            subst e
            refine ⟨p, hv, h1, h3, ?_⟩
            have hk : k + 1 ≤ L := by
              rcases (hY.has m).mp hs with ⟨j, h4, h5⟩ | h
              · have := hm.2 j h5; omega
              · exact h.elim
            exact (hY.has p).mpr (.inl ⟨k, by omega, h1.1⟩)
        refine w_whileS (S := List Nat × Nat × Nat) (fun s => s.1.length + s.2.2 = N ∧ Ds net y s.2.1 (some s.2.2) ∧ (lookI kvs (s.2.1 : Int)).isSome = true ∧ (s.1 ++ [s.2.1])[0]? = some o ∧ (∀ (k a b : Nat), (s.1 ++ [s.2.1])[k]? = some b → (s.1 ++ [s.2.1])[k + 1]? = some a → El net a b)) (fun s => s.2.2)
          (fun s => [.dat false (dTT net), .dat true (.int (y : Nat)), .dat true (.int (o : Nat)), .own (.dic .k (dKV kvs)), .dat true (dL row), .own (.lst ((s.1 ++ [s.2.1]).map fun x : Nat => PyData.int (x : Int)))]) ([], o, N) rfl ⟨by simp, hdN, hs, rfl, fun k a b h1 h2 => by simp at h2⟩ (by show N < 1000000; omega) ?_
        rintro ⟨pre, m, n⟩ ⟨q1, q2, q3, q4, q5⟩
        dsimp only at q1 q2 q3 q4 q5 ⊢
        refine ⟨_, _, t_tst (e_cmp (e_ixS (e_varO rfl) (e_neg e_C) rfl at_last) (e_var rfl) k_neI), fun hz => ?_, fun hz => ?_⟩
        · have hmy : m ≠ y := by
            intro e; subst e; simp at hz
          obtain ⟨n, rfl⟩ : ∃ k, n = k + 1 := by
            cases n with
            | zero => exact absurd (wk0 q2.1) hmy
            | succ k => exact ⟨k, rfl⟩
          obtain ⟨p, g1, g2, g3, g4⟩ := stp n m (by omega) q2 q3
          apply w_expr
          · apply e_ap
            · rfl
            · exact e_frz (e_ixKS (e_varO rfl) (e_ixS (e_varO rfl) (e_neg e_C) rfl at_last) rfl g1)
            · rfl
            · exact ltS_map (by simp; omega)
          refine w_nil ⟨(pre ++ [m], p, n), by rw [List.map_append (l₁ := pre ++ [m])]; rfl, ⟨by simp; omega, g2, g4, ?_, ?_⟩, Nat.lt_succ_self n⟩
          · show ((pre ++ [m]) ++ [p])[0]? = some o
            rw [List.getElem?_append_left (by simp)]
            exact q4
          · intro k a b h1 h2
            dsimp only at h1 h2
            by_cases hk : k + 1 < (pre ++ [m]).length
            · rw [List.getElem?_append_left (by omega)] at h1
              rw [List.getElem?_append_left (by omega)] at h2
              exact q5 k a b h1 h2
            · have h3 : k + 1 < ((pre ++ [m]) ++ [p]).length := (List.getElem?_eq_some_iff.mp h2).1
              simp at hk h3
              have hk : k = pre.length := by omega
              subst hk
              simp at h1 h2
              subst h1
              subst h2
              exact g3
        · have hmy : m = y := by simp at hz; omega
          subst hmy
          have hn0 : n = 0 := by
            have := q2.2 0 .nil
            omega
          subst hn0
          apply w_retC
          · apply c_l
            exact n_rev (e_varO rfl) rfl
          refine ⟨_, _, rfl, rfl, .inl ⟨N, (pre ++ [m]).reverse, hdN, by rw [List.map_reverse], ?_⟩⟩
          have hlen : (pre ++ [m]).length = N + 1 := by simp; omega
          refine ⟨by rw [List.length_reverse, hlen], by simp, ?_, fun k a b h1 h2 => ?_⟩
          · rw [List.getElem?_reverse (by omega), hlen]
            simpa using q4
          · have hk2 : k + 1 < (pre ++ [m]).reverse.length := (List.getElem?_eq_some_iff.mp h2).1
            rw [List.length_reverse, hlen] at hk2
            rw [List.getElem?_reverse (by omega), hlen] at h1
            rw [List.getElem?_reverse (by omega), hlen] at h2
            refine q5 (N + 1 - 1 - (k + 1)) a b h2 ?_
            rw [← h1]; congr 1; omega
      · have hs : (lookI kvs (o : Int)).isSome = false := by simpa using hs
        have hrow : row = [] := by
          rw [hs] at hz
          simpa using hz
        simp_all_arith
        · rw [hs]; rfl
        apply w_seqA
        nofun
        refine ⟨_, _, rfl, rfl, .inr ⟨fun n hn => ?_, rfl⟩⟩
        -- nothing at step L, so nothing beyond
        have hno : ∀ j m, Wk net y m (L + j) → ∃ k, k < L + j ∧ Wk net y m k := by
          intro j
          induction j with
          | zero =>
            intro m hm
            obtain ⟨a, ha⟩ := lst_ex (Wk net y m)
            cases a with
            | none => exact absurd hm (ha _)
            | some k =>
              have := ha.2 _ hm
              by_cases e : k = L
              · subst e
                have := (hF (m : Int)).mpr ⟨m, rfl, ha⟩
                rw [hrow] at this; cases this
              · exact ⟨k, by omega, ha.1⟩
          | succ j ih =>
            intro m hm
            obtain ⟨p, h1, h2⟩ := wkS hm
            obtain ⟨k, h3, h4⟩ := ih p h1
            exact ⟨k + 1, by omega, .snoc h4 h2⟩
        have hsm : ∀ n m, Wk net y m n → ∃ k, k ≤ L ∧ Wk net y m k := by
          intro n
          induction n using Nat.strongRecOn with
          | ind n ih =>
            intro m hm
            by_cases e : n ≤ L
            · exact ⟨n, e, hm⟩
            · obtain ⟨k, h1, h2⟩ := hno (n - L) m (by rw [show L + (n - L) = n by omega]; exact hm)
              exact ih k (by omega) m h2
        have := (hY.has o).mpr (.inl (hsm n o hn))
        rw [hs] at this; cases this
  obtain ⟨z, e, ⟨n, w, h1, rfl, h2⟩ | ⟨h1, rfl⟩⟩ := key
  · exact .inl ⟨n, w, h1, e, h2⟩
  · exact .inr ⟨h1, e⟩
end PD


set_option linter.all false
set_option maxRecDepth 100000
set_option autoImplicit false
namespace PD
open PySem L2
theorem bits_q (net : List (List Int)) (hN : NetOk net) (hn : net.length ≤ 1000) : ∃ bs, BitsOk net bs ∧ uBitsOf [.d (dTT net)] = .val (.c (.lst (bs.map PyData.int)), [.un]) := bitsOf_u net hN hn
theorem isIn_q (m k : Int) (hk : 0 ≤ k) : uIsIn [.d (.int m), .d (.int k)] = .val (.d (.bool (inb m k)), [.un, .un]) := isIn_u m k hk
theorem inb_anc {net : List (List Int)} {bs : List Int} (h : BitsOk net bs) {k : Nat} {b : Int} (hb : bs[k]? = some b) (j : Nat) : inb b (j : Int) = true ↔ Anc net k j := by
  unfold inb
  rw [decide_eq_true_iff, isIn_msk (h.2 k b hb) (by omega)]
  simp
theorem comes_q (net : List (List Int)) (hN : NetOk net) (hn : net.length ≤ 1000) (y o : Nat) (hy : y < net.length) (ho : o < net.length) : ∃ b, u_p_comes_of [.d (dTT net), .d (.int (y : Nat)), .d (.int (o : Nat))] = .val (.d (.bool b), [.un, .un, .un]) ∧ (b = true ↔ Anc net y o) := by
  obtain ⟨bs, hB, eb⟩ := bits_q net hN hn
  obtain ⟨b, hb⟩ : ∃ b, bs[y]? = some b := ⟨_, List.getElem?_eq_getElem (by rw [hB.1]; exact hy)⟩
  have c1 := check_q net (y : Int) (by omega) (by omega)
  have c2 := check_q net (o : Int) (by omega) (by omega)
  have ei := isIn_q b (o : Nat) (by omega)
  refine ⟨inb b (o : Int), ?_, inb_anc hB hb o⟩
  refine ok_eq (ok_run rfl ?_)
  unfold b_p_comes_of
  bv_decide
  bv_decide
  apply w_retX
  · exact x_call (a_cons (e_ixL (e_x (x_call (a_cons (e_var rfl) a_nil) rfl eb) rfl) (e_var rfl) (at_nat hb)) (a_cons (e_var rfl) a_nil)) rfl ei
  exact ⟨_, _, rfl, rfl, rfl⟩
/-! ## orders -/
structure Ord (rows : List (List Int)) (order back : List Nat) : Prop where
  ol : order.length = rows.length
  bl : back.length = rows.length
  ob : ∀ p m : Nat, order[p]? = some m → back[m]? = some p
  bo : ∀ m p : Nat, back[m]? = some p → order[p]? = some m
  top : ∀ m e : Nat, El rows m e → ∀ p : Nat, back[m]? = some p → ∃ q : Nat, back[e]? = some q ∧ q < p
theorem Ord.lt {rows : List (List Int)} {order back : List Nat} (h : Ord rows order back) {p m : Nat} (hp : order[p]? = some m) : m < rows.length := by
  rw [← h.bl]
  exact (List.getElem?_eq_some_iff.mp (h.ob p m hp)).1
theorem Ord.ltB {rows : List (List Int)} {order back : List Nat} (h : Ord rows order back) {p m : Nat} (hp : back[m]? = some p) : p < rows.length := by
  rw [← h.ol]
  exact (List.getElem?_eq_some_iff.mp (h.bo m p hp)).1
/-- a row by new numbers -/
def reN (back : List Nat) (row : List Int) : List Int := row.map fun e => ((back[e.toNat]?.getD 0 : Nat) : Int)
def due (rows : List (List Int)) (order back : List Nat) : List (List Int) := order.map fun m => reN back (rows[m]?.getD [])
theorem due_at {rows : List (List Int)} {order back : List Nat} (h : Ord rows order back) {p m : Nat} {row : List Int} (hp : order[p]? = some m) (hr : rows[m]? = some row) : (due rows order back)[p]? = some (reN back row) := by
  unfold due
  rw [List.getElem?_map, hp]
  simp [hr]
theorem due_of {rows : List (List Int)} {order back : List Nat} (h : Ord rows order back) {p : Nat} {r : List Int} (hp : (due rows order back)[p]? = some r) : ∃ m row, order[p]? = some m ∧ back[m]? = some p ∧ rows[m]? = some row ∧ r = reN back row := by
  unfold due at hp
  obtain ⟨m, hm, rfl⟩ := gmap hp
  have hlt := h.lt hm
  exact ⟨m, rows[m], hm, h.ob p m hm, List.getElem?_eq_getElem hlt, by rw [List.getElem?_eq_getElem hlt]; rfl⟩
theorem mem_reN {rows : List (List Int)} {order back : List Nat} (h : Ord rows order back) (hR : RowsOk rows) {m p : Nat} {row : List Int} (hr : rows[m]? = some row) (hb : back[m]? = some p) {x : Int} (hx : x ∈ reN back row) : ∃ e q : Nat, (e : Int) ∈ row ∧ back[e]? = some q ∧ q < p ∧ x = (q : Int) := by
  obtain ⟨y, hy, rfl⟩ := List.mem_map.mp hx
  have hy2 := (hR m row hr).1 y hy
  obtain ⟨e, rfl⟩ : ∃ e : Nat, y = (e : Int) := ⟨y.toNat, by omega⟩
  obtain ⟨q, h1, h2⟩ := h.top m e ⟨row, hr, hy⟩ p hb
  exact ⟨e, q, hy, h1, h2, by simp [h1]⟩
theorem reN_nodup {rows : List (List Int)} {order back : List Nat} (h : Ord rows order back) (hR : RowsOk rows) {m p : Nat} {row : List Int} (hr : rows[m]? = some row) (hb : back[m]? = some p) : (reN back row).Nodup := by
  have hn := (hR m row hr).2.1
  unfold reN
  refine List.Pairwise.map _ (fun a b hab => ?_) (List.Pairwise.and_mem.mp hn)
  obtain ⟨ha, hb', hne⟩ := hab
  have ha2 := (hR m row hr).1 a ha
  have hb2 := (hR m row hr).1 b hb'
  obtain ⟨x, rfl⟩ : ∃ e : Nat, a = (e : Int) := ⟨a.toNat, by omega⟩
  obtain ⟨y, rfl⟩ : ∃ e : Nat, b = (e : Int) := ⟨b.toNat, by omega⟩
  obtain ⟨q, h1, _⟩ := h.top m x ⟨row, hr, ha⟩ p hb
  obtain ⟨r, h2, _⟩ := h.top m y ⟨row, hr, hb'⟩ p hb
  intro e
  simp only [Int.toNat_natCast, h1, h2, Option.getD_some] at e
  have : q = r := by omega
  subst this
  have e1 := h.bo x q h1
  have e2 := h.bo y q h2
  rw [e1] at e2
  cases e2
  exact hne rfl
theorem due_ok {rows : List (List Int)} {order back : List Nat} (h : Ord rows order back) (hR : RowsOk rows) : RowsOk (due rows order back) := by
  intro p r hr
  obtain ⟨m, row, h1, h2, h3, rfl⟩ := due_of h hr
  refine ⟨fun x hx => ?_, reN_nodup h hR h3 h2, by unfold reN; rw [List.length_map]; exact (hR m row h3).2.2⟩
  obtain ⟨e, q, _, _, h6, rfl⟩ := mem_reN h hR h3 h2 hx
  omega
theorem due_len {rows : List (List Int)} {order back : List Nat} (h : Ord rows order back) : (due rows order back).length = rows.length := by unfold due; rw [List.length_map, h.ol]
/-- the way back -/
theorem ord_back {rows : List (List Int)} {order back : List Nat} (h : Ord rows order back) (hR : RowsOk rows) : Ord (due rows order back) back order where
  ol := by rw [due_len h, h.bl]
  bl := by rw [due_len h, h.ol]
  ob := fun p m hp => h.bo p m hp
  bo := fun m p hp => h.ob m p hp
  top := fun p x hx m hm => by
    obtain ⟨r, h1, h2⟩ := hx
    obtain ⟨m', row, h3, h4, h5, rfl⟩ := due_of h h1
    rw [hm] at h3; cases h3
    obtain ⟨e, q, g1, g2, g3, g4⟩ := mem_reN h hR h5 h4 h2
    have : x = q := by omega
    subst this
    have := ((hR m row h5).1 _ g1).2
    exact ⟨e, h.bo e x g2, by omega⟩
theorem due_back {rows : List (List Int)} {order back : List Nat} (h : Ord rows order back) (hR : RowsOk rows) : due (due rows order back) back order = rows := by
  apply List.ext_getElem?
  intro m
  cases hm : rows[m]? with
  | none =>
    have : rows.length ≤ m := List.getElem?_eq_none_iff.mp hm
    rw [List.getElem?_eq_none_iff, due_len (ord_back h hR), due_len h]
    exact this
  | some row =>
    have hlt : m < rows.length := (List.getElem?_eq_some_iff.mp hm).1
    obtain ⟨p, hp⟩ : ∃ p, back[m]? = some p := ⟨_, List.getElem?_eq_getElem (by rw [h.bl]; exact hlt)⟩
    rw [due_at (ord_back h hR) hp (due_at h (h.bo m p hp) hm)]
    congr 1
    unfold reN
    rw [List.map_map]
    have : row.map ((fun e : Int => ((order[e.toNat]?.getD 0 : Nat) : Int)) ∘ fun e : Int => ((back[e.toNat]?.getD 0 : Nat) : Int)) = row.map id := List.map_congr_left fun x hx => by
      have hx2 := (hR m row hm).1 x hx
      obtain ⟨e, rfl⟩ : ∃ e : Nat, x = (e : Int) := ⟨x.toNat, by omega⟩
      obtain ⟨q, h1, _⟩ := h.top m e ⟨row, hm, hx⟩ p hp
      simp [h1, h.bo e q h1]
    rw [this, List.map_id]
theorem anc_due {rows : List (List Int)} {order back : List Nat} (h : Ord rows order back) (hR : RowsOk rows) {y o p q : Nat} (hy : back[y]? = some p) (ho : back[o]? = some q) (ha : Anc (netR rows) y o) : Anc (netR (due rows order back)) p q := by
  induction y using Nat.strongRecOn generalizing p with
  | ind y ih =>
    have hlt : y < rows.length := by rw [← h.bl]; exact (List.getElem?_eq_some_iff.mp hy).1
    obtain ⟨row, hr⟩ : ∃ row, rows[y]? = some row := ⟨_, List.getElem?_eq_getElem hlt⟩
    have hn : (netR rows)[y]? = some (sortI row) := by unfold netR; rw [List.getElem?_map, hr]; rfl
    have hd : (netR (due rows order back))[p]? = some (sortI (reN back row)) := by unfold netR; rw [List.getElem?_map, due_at h (h.bo y p hy) hr]; rfl
    rw [anc_iff hd]
    rcases (anc_iff hn).mp ha with rfl | ⟨k, hk, hak⟩
    · rw [hy] at ho; cases ho; exact .inl rfl
    · have hk := sortI_mem.mp hk
      have hk2 := ((hR y row hr).1 _ hk).2
      obtain ⟨r, h1, h2⟩ := h.top y k ⟨row, hr, hk⟩ p hy
      refine .inr ⟨r, sortI_mem.mpr (List.mem_map.mpr ⟨(k : Int), hk, by simp [h1]⟩), ih k (by omega) h1 hak⟩
theorem anc_due_iff {rows : List (List Int)} {order back : List Nat} (h : Ord rows order back) (hR : RowsOk rows) {y o p q : Nat} (hy : back[y]? = some p) (ho : back[o]? = some q) : Anc (netR (due rows order back)) p q ↔ Anc (netR rows) y o := by
  constructor
  · intro ha
    have := anc_due (ord_back h hR) (due_ok h hR) (h.bo y p hy) (h.bo o q ho) ha
    rw [due_back h hR] at this
    exact this
  · exact anc_due h hR hy ho
/-! ## places_in -/
def plc (order : List Nat) : List (Int × PyData) := order.mapIdx fun (i m : Nat) => (((m : Nat) : Int), PyData.int ((i : Nat) : Int))
abbrev oD (tp : Bool) (order : List Nat) : PyData := if tp then .tuple (order.map fun x : Nat => PyData.int (x : Int)) else .list (order.map fun x : Nat => PyData.int (x : Int))
theorem plc_take {order : List Nat} {i m : Nat} (h : order[i]? = some m) : plc (order.take (i + 1)) = plc (order.take i) ++ [((m : Int), .int (i : Int))] := by
  unfold plc
  rw [take_step h, List.mapIdx_append]
  have : (order.take i).length = i := by
    rw [List.length_take]
    have := (List.getElem?_eq_some_iff.mp h).1
    omega
  simp [this]
theorem plc_look {rows : List (List Int)} {order back : List Nat} (h : Ord rows order back) (i : Nat) (m : Nat) : lookI (plc (order.take i)) (m : Int) = match back[m]? with
    | some p => if p < i then some (.int (p : Int)) else none
    | none => none := by
  induction i with
  | zero => simp [plc, lookI_nil]; split <;> rfl
  | succ i ih =>
    cases hx : order[i]? with
    | none =>
      have hle : order.length ≤ i := List.getElem?_eq_none_iff.mp hx
      have : order.take (i + 1) = order.take i := by rw [List.take_of_length_le (by omega), List.take_of_length_le hle]
      rw [this, ih]
      cases hb : back[m]? with
      | none => rfl
      | some p =>
        have := (List.getElem?_eq_some_iff.mp (h.bo m p hb)).1
        simp only
        rw [if_pos (by omega), if_pos (by omega)]
    | some k =>
      rw [plc_take hx, lookI_snoc, ih]
      have hk := h.ob i k hx
      cases hb : back[m]? with
      | none =>
        have : ¬ (k : Int) = (m : Int) := fun e => by
          have : k = m := by omega
          subst this; rw [hk] at hb; cases hb
        simp [this]
      | some p =>
        simp only
        by_cases h1 : p < i
        · have h3 : p < i + 1 := by omega
          simp [h1, h3]
        · simp only [if_neg h1]
          by_cases h2 : p = i
          · subst h2
            have := h.bo m p hb
            rw [hx] at this; cases this
            simp
          · have : ¬ (k : Int) = (m : Int) := fun e => by
              have : k = m := by omega
              subst this; rw [hk] at hb; cases hb; exact h2 rfl
            have h3 : ¬ p < i + 1 := by omega
            simp [this, h3]
theorem seq_oD {Γ : List Sl} {m : Nat} {fr tp : Bool} {order : List Nat} (h : Γ[m]? = some (.dat fr (oD tp order))) : iSeq (dVar m) Γ = .val ((order.map (fun x : Nat => PyData.int (x : Int)), fr), Γ) ∧ iEnum (dVar m) Γ = .val ((enumD (order.map fun x : Nat => PyData.int (x : Int)), fr), Γ) ∧ dB kLen (dAc (dVar m) dA0) Γ = .val (.d true (.int (order.length : Nat)), Γ) := by
  cases tp with
  | true => exact ⟨i_seqT (e_var h), i_enumT (e_var h), e_B (a_cons (e_var h) a_nil) (k_lenJ (enc := fun x : Nat => PyData.int (x : Int)) rfl)⟩
  | false => exact ⟨i_seqL (e_var h), i_enumL (e_var h), e_B (a_cons (e_var h) a_nil) (k_lenI (enc := fun x : Nat => PyData.int (x : Int)) rfl)⟩
theorem placesIn_q (rows : List (List Int)) (order back : List Nat) (h : Ord rows order back) (hR : RowsOk rows) (hl : rows.length ≤ 1000) (tp : Bool) :
    u_p_places_in [.d (dTT (netR rows)), .d (oD tp order)] = .val (.c (.dic .k (dKV (plc order))), [.un, .un]) := by
  have hnl : (netR rows).length = rows.length := by unfold netR; simp
  have hsc : scD (oD tp order) = false := by cases tp <;> rfl
  refine ok_eq (ok_run rfl ?_)
  unfold b_p_places_in
  have e0 : initS 6 [Ar.d (dTT (netR rows)), Ar.d (oD tp order)] = [.dat false (dTT (netR rows)), .dat false (oD tp order), .un, .un, .un, .un] := by
    unfold initS arS; simp only [List.map_cons, hsc]; rfl
  rw [e0]
  apply w_setX
  · exact x_c (show nDic0 .k _ = _ from rfl)
  refine w_forE (enc := fun x : Nat => PyData.int (x : Int)) order (S := Nat) (fun i s => s = i) (fun i => [.dat false (dTT (netR rows)), .dat false (oD tp order), .own (.dic .k (dKV (plc (order.take i)))), .un, .un, .un]) 0 (seq_oD rfl).2.1 rfl rfl ?_ ?_
  · rintro i m s hm rfl
    have hlt := h.lt hm
    have hbm := h.ob s m hm
    obtain ⟨row, hr⟩ : ∃ row, rows[m]? = some row := ⟨_, List.getElem?_eq_getElem hlt⟩
    have hn : (netR rows)[m]? = some (sortI row) := by unfold netR; rw [List.getElem?_map, hr]; rfl
    have hno : lookI (plc (order.take s)) (m : Int) = none := by rw [plc_look h, hbm]; simp
    refine ⟨_, rfl, ?_⟩
    apply w_ifN
    · apply t_or
      · array_mem_dec
      · intro _
        apply t_or
        · array_mem_dec
        · intro _
          exact t_tst (e_cmp (e_var rfl) (e_varO rfl) (k_inKS rfl))
    · rw [hno]; simp; omega
    apply w_seqN
    refine w_forL (enc := PyData.int) (sortI row) (S := Unit) (fun _ _ => True) (fun _ => [.dat false (dTT (netR rows)), .dat false (oD tp order), .own (.dic .k (dKV (plc (order.take s)))), .dat false (.int (s : Nat)), .dat false (.int (m : Nat)), .un]) () (i_seqT (e_ixT (e_var rfl) (e_var rfl) (at_nat hn))) rfl trivial ?_ ?_
    · rintro j x _ hx _
      have hx := sortI_mem.mp (mem_at hx)
      have hx2 := (hR m row hr).1 x hx
      obtain ⟨e, rfl⟩ : ∃ e : Nat, x = (e : Int) := ⟨x.toNat, by omega⟩
      obtain ⟨q, h1, h2⟩ := h.top m e ⟨row, hr, hx⟩ s hbm
      have hyes : lookI (plc (order.take s)) (e : Int) = some (.int (q : Int)) := by rw [plc_look h, h1]; simp [h2]
      refine ⟨_, rfl, ?_⟩
      apply w_ifN
      · exact t_tst (e_cmp (e_var rfl) (e_varO rfl) (k_ninKS rfl))
      · rw [hyes]; rfl
      exact w_nil ⟨(), rfl, trivial⟩
    · rintro _ _
      apply w_put
      · exact e_frzT (e_var rfl) rfl
      · rfl
      · exact e_var rfl
      · rfl
      · refine putC_kv ?_
        have := h.ol
        unfold plc
        rw [List.length_mapIdx, List.length_take]
        omega
      refine w_nil ⟨s + 1, ?_, rfl⟩
      rw [putI_new _ hno, plc_take hm]
      rfl
  · rintro s rfl
    apply w_ifN
    · exact t_tst (e_cmp (seq_oD rfl).2.2 (e_B (a_cons (e_var rfl) a_nil) (k_lenJ rfl)) k_I)
    · rw [hnl, h.ol]; simp
    apply w_seqN
    apply w_retO rfl
    refine ⟨_, _, rfl, rfl, ?_⟩
    rw [List.take_length]
theorem sortI_perm' {xs ys : List Int} (h : xs.Perm ys) : sortI xs = sortI ys :=
  sortI_unique ((sortI_perm xs).trans h) (sortI_le xs)
theorem renumbered_q (rows : List (List Int)) (order back : List Nat) (h : Ord rows order back) (hR : RowsOk rows) (hl : rows.length ≤ 1000) (tp : Bool) :
    u_p_renumbered [.d (dTT (netR rows)), .d (oD tp order)] = .val (.d (dTT (netR (due rows order back))), [.un, .un]) := by
  have hnl : (netR rows).length = rows.length := by unfold netR; simp
  have hsc : scD (oD tp order) = false := by cases tp <;> rfl
  have hp := placesIn_q rows order back h hR hl tp
  refine ok_eq (ok_run rfl ?_)
  unfold b_p_renumbered
  have e0 : initS 6 [Ar.d (dTT (netR rows)), Ar.d (oD tp order)] = [.dat false (dTT (netR rows)), .dat false (oD tp order), .un, .un, .un, .un] := by
    unfold initS arS; simp only [List.map_cons, hsc]; rfl
  rw [e0]
  bv_decide
  bv_decide
  refine w_forL (enc := fun x : Nat => PyData.int (x : Int)) order (S := Nat) (fun i s => s = i) (fun i => [.dat false (dTT (netR rows)), .dat false (oD tp order), .own (.dic .k (dKV (plc order))), .own (.lst (((netR (due rows order back)).take i).map dT)), .un, .un]) 0 (seq_oD rfl).1 rfl rfl ?_ ?_
  · rintro i m s hm rfl
    have hlt := h.lt hm
    have hbm := h.ob s m hm
    obtain ⟨row, hr⟩ : ∃ row, rows[m]? = some row := ⟨_, List.getElem?_eq_getElem hlt⟩
    have hn : (netR rows)[m]? = some (sortI row) := by unfold netR; rw [List.getElem?_map, hr]; rfl
    have hd : (netR (due rows order back))[s]? = some (sortI (reN back row)) := by unfold netR; rw [List.getElem?_map, due_at h hm hr]; rfl
    refine ⟨_, rfl, ?_⟩
    apply w_expr
    · apply e_ap
      · rfl
      · apply e_frz
        apply e_B
        · apply a_cons
          · apply e_ofN
            apply n_B
            · apply a_cons
              · apply e_ofN
                refine n_map (enc := PyData.int) (sortI row) (fun e => .int ((back[e.toNat]?.getD 0 : Nat) : Int)) (i_seqT (e_ixT (e_var rfl) (e_var rfl) (at_nat hn))) ?_ rfl fun x hx => ⟨_, rfl, rfl, ?_⟩
                · have := (hR m row hr).2.2
                  rw [(sortI_perm row).length_eq]; omega
                · have hx := sortI_mem.mp hx
                  have hx2 := (hR m row hr).1 x hx
                  obtain ⟨e, rfl⟩ : ∃ e : Nat, x = (e : Int) := ⟨x.toNat, by omega⟩
                  obtain ⟨q, h1, h2⟩ := h.top m e ⟨row, hr, hx⟩ s hbm
                  have hyes : lookI (plc order) (e : Int) = some (.int (q : Int)) := by
                    have := plc_look h order.length e
                    rw [List.take_length, h1] at this
                    rw [this]
                    have := (List.getElem?_eq_some_iff.mp (h.bo e q h1)).1
                    simp [this]
                  simp only [Int.toNat_natCast, h1, Option.getD_some]
                  exact e_frz (e_ixKS (e_varO rfl) (e_var rfl) rfl hyes)
              · exact a_nil
            · exact k_sorted (ns := reN back (sortI row)) (show intsOf _ = _ by
                have : (sortI row).map (fun e => PyData.int ((back[e.toNat]?.getD 0 : Nat) : Int)) = (reN back (sortI row)).map PyData.int := by unfold reN; rw [List.map_map]; rfl
                rw [this]; exact intsOf_map _)
          · exact a_nil
        · exact k_tup rfl
      · rfl
      · refine ltS_map ?_
        rw [List.length_take]
        have := due_len h
        unfold netR
        rw [List.length_map]
        omega
    refine w_nil ⟨s + 1, ?_, rfl⟩
    rw [take_step hd, List.map_append]
    have : sortI (reN back (sortI row)) = sortI (reN back row) := sortI_perm' ((sortI_perm row).map _)
    rw [this]
    rfl
  · rintro s rfl
    have : ((netR (due rows order back)).take order.length) = netR (due rows order back) := by
      rw [List.take_of_length_le]
      unfold netR due
      simp
    rw [this]
    apply w_ret
    · exact e_B (a_cons (e_varO rfl) a_nil) (k_tup rfl)
    exact ⟨_, _, rfl, rfl, rfl⟩
theorem insS_len (k : Int) : ∀ ns : List Int, (insS k ns).length ≤ ns.length + 1
  | [] => by simp [insS]
  | n :: ns => by
    have := insS_len k ns
    unfold insS
    split
    · simp
    · split
      · simp
      · simp; omega
theorem setI_len : ∀ ns : List Int, (setI ns).length ≤ ns.length
  | [] => by simp [setI]
  | n :: ns => by
    have h1 := setI_len ns
    have h2 := insS_len n (setI ns)
    simp only [setI, List.length_cons]
    omega
/-- makes in a list or in a tuple -/
abbrev mD (tp : Bool) (ns : List Int) : PyData := if tp then dT ns else dL ns
theorem rdSeq_mD {Γ : List Sl} {fr tp : Bool} {ns : List Int} : rdSeq Γ (.d fr (mD tp ns)) = some (ns.map PyData.int, fr) := by cases tp <;> rfl
theorem seq_mD {Γ : List Sl} {m : Nat} {fr tp : Bool} {ns : List Int} (h : Γ[m]? = some (.dat fr (mD tp ns))) : iSeq (dVar m) Γ = .val ((ns.map PyData.int, fr), Γ) := by
  cases tp with
  | true => exact i_seqT (e_var h)
  | false => exact i_seqL (e_var h)
theorem sc_mD {tp : Bool} {ns : List Int} : scD (mD tp ns) = false := by cases tp <;> rfl
theorem w_retF {Γ Γ1 : List Sl} {f : DF} {r : DS} {d : PyData} {fr : Bool} {P : Fw → List Sl → Prop} (h1 : f Γ = .val (.d fr d, Γ1)) (hf : flat d = true) (h : P (.rt (.d d)) Γ1) : W (bSeq (bRet f) r) Γ P := w_seq ⟨(.rt (.d d), Γ1), by
  unfold bRet; rw [h1, bind_val]
  cases fr with
  | true => rfl
  | false =>
    show (R.val (AV.d (flat d) d, Γ1)).bind _ = _
    rw [hf]; rfl, h⟩
end PD


set_option linter.all false
set_option maxRecDepth 100000
set_option autoImplicit false
namespace PD
open PySem L2
theorem check_x (net : List (List Int)) (y : Int) (h : ¬ (0 ≤ y ∧ y < (net.length : Int))) : u_p_check_make [.d (dTT net), .d (.int y)] = .exc ⟨"NoMake", [("make", .int y)], [.un, .un]⟩ := by
  refine run_x (y := ⟨"NoMake", [("make", .int y)], [.dat false (dTT net), .dat true (.int y)]⟩) rfl ?_ rfl
  unfold b_p_check_make
  subst_eqs
theorem eldersOf_q (net : List (List Int)) (hN : NetOk net) (hn : net.length ≤ 1000) (y : Nat) (hy : y < net.length) : ∃ es, u_p_elders_of [.d (dTT net), .d (.int (y : Nat))] = .val (.d (dT es), [.un, .un]) ∧ Rise es (Anc net y) := by
  obtain ⟨bs, hB, eb⟩ := bits_q net hN hn
  obtain ⟨b, hb⟩ : ∃ b, bs[y]? = some b := ⟨_, List.getElem?_eq_getElem (by rw [hB.1]; exact hy)⟩
  have hM := hB.2 y b hb
  obtain ⟨m, rfl⟩ : ∃ m : Nat, b = (m : Int) := ⟨b.toNat, by have := hM.nn; omega⟩
  refine ⟨bitsFrom 0 (m + 1) m, ?_, bitsFrom_rise.1, fun x => ?_⟩
  · refine ok_eq (ok_run rfl ?_)
    unfold b_p_elders_of
    apply w_exprX
    · apply x_call
      · symm_saturate
      · rfl
      · exact check_q net (y : Nat) (by omega) (by omega)
    · rfl
    apply w_retX
    · apply x_call
      · apply a_cons
        · apply e_ixL
          · apply e_xc
            apply x_call
            · symm_saturate
            · rfl
            · exact eb
          · exact e_var rfl
          · exact at_nat hb
        · symm_saturate
      · rfl
      · exact makesIn_q net.length m hn (by have := hM.lt; simpa using this)
    exact ⟨_, _, rfl, rfl, rfl⟩
  · rw [bitsFrom_mem (by omega)]
    have hbit := hM.bit
    simp only [Int.toNat_natCast] at hbit
    constructor
    · rintro ⟨j, h1, h2⟩; exact ⟨j, (hbit j).mp h1, by rw [h2]; simp⟩
    · rintro ⟨j, h1, h2⟩; exact ⟨j, (hbit j).mpr h1, by rw [h2]; simp⟩
theorem filt_rise (n : Nat) (p : Int → Bool) : Rise ((rng 0 (n : Nat)).filter p) (fun j => j < n ∧ p (j : Int) = true) := by
  refine ⟨(rng_rise 0 (n : Nat)).filter _, fun y => ?_⟩
  rw [List.mem_filter, rng_mem0]
  constructor
  · rintro ⟨⟨h1, h2⟩, h3⟩; exact ⟨y.toNat, ⟨by omega, by rw [Int.toNat_of_nonneg h1]; exact h3⟩, by omega⟩
  · rintro ⟨j, ⟨h1, h2⟩, rfl⟩; exact ⟨⟨by omega, by omega⟩, h2⟩
theorem heirsOf_q (net : List (List Int)) (hN : NetOk net) (hn : net.length ≤ 1000) (o : Nat) (ho : o < net.length) : ∃ hs, u_p_heirs_of [.d (dTT net), .d (.int (o : Nat))] = .val (.d (dT hs), [.un, .un]) ∧ Rise hs (fun k => k < net.length ∧ Anc net k o) := by
  obtain ⟨bs, hB, eb⟩ := bits_q net hN hn
  refine ⟨(rng 0 (net.length : Nat)).filter (fun x => inb (bs[x.toNat]?.getD 0) (o : Int)), ?_, ?_⟩
  · refine ok_eq (ok_run rfl ?_)
    unfold b_p_heirs_of
    apply w_exprX
    · apply x_call
      · symm_saturate
      · rfl
      · exact check_q net (o : Nat) (by omega) (by omega)
    · rfl
    apply w_set
    · apply e_xc
      apply x_call
      · symm_saturate
      · rfl
      · exact eb
    apply w_ret
    · apply e_B
      · apply a_cons
        · apply e_ofN
          refine n_comp (enc := PyData.int) (rng 0 (net.length : Nat)) (fun x => inb (bs[x.toNat]?.getD 0) (o : Int)) PyData.int (fr := true) (Γ1 := [.dat false (dTT net), .dat true (.int (o : Nat)), .dat true (.list (bs.map PyData.int)), .un]) ?_ (by rw [rng_len]; omega) rfl fun x hx => ⟨_, rfl, rfl, ?_, fun _ => e_frz (e_var rfl)⟩
          · refine i_range1 (fr := true) ?_ (cRng_of (by decide) (by decide) (by omega) (by omega))
            have := e_B (Γ := [.dat false (dTT net), .dat true (.int (o : Nat)), .dat true (.list (bs.map PyData.int)), .un]) (q := kLen) (a_cons (e_var (m := 0) rfl) a_nil) (k_lenT (ds := net.map fun r => dT r) rfl)
            rw [List.length_map] at this
            exact this
          · have hx := rng_mem0.mp hx
            obtain ⟨b, hb⟩ : ∃ b, bs[x.toNat]? = some b := ⟨_, List.getElem?_eq_getElem (by rw [hB.1]; omega)⟩
            rw [hb]
            apply t_tst
            apply e_xd
            apply x_call
            · apply a_cons
              · apply e_ixL
                · exact e_var rfl
                · exact e_var rfl
                · exact at_int hx.1 hb
              · symm_saturate
            · rfl
            · exact isIn_q b (o : Nat) (by omega)
        · exact a_nil
      · exact k_tup rfl
    exact ⟨_, _, rfl, rfl, rfl⟩
  · have h := filt_rise net.length (fun x => inb (bs[x.toNat]?.getD 0) (o : Int))
    refine ⟨h.1, fun y => (h.2 y).trans ?_⟩
    constructor
    · rintro ⟨j, ⟨h1, h2⟩, rfl⟩
      obtain ⟨b, hb⟩ : ∃ b, bs[j]? = some b := ⟨_, List.getElem?_eq_getElem (by rw [hB.1]; omega)⟩
      simp only [Int.toNat_natCast, hb, Option.getD_some] at h2
      exact ⟨j, ⟨h1, (inb_anc hB hb o).mp h2⟩, rfl⟩
    · rintro ⟨j, ⟨h1, h2⟩, rfl⟩
      obtain ⟨b, hb⟩ : ∃ b, bs[j]? = some b := ⟨_, List.getElem?_eq_getElem (by rw [hB.1]; omega)⟩
      refine ⟨j, ⟨h1, ?_⟩, rfl⟩
      simp only [Int.toNat_natCast, hb, Option.getD_some]
      exact (inb_anc hB hb o).mpr h2

/-- a call that raises, as a statement -/
theorem eldersOf_x (net : List (List Int)) (y : Int) (h : ¬ (0 ≤ y ∧ y < (net.length : Int))) : u_p_elders_of [.d (dTT net), .d (.int y)] = .exc ⟨"NoMake", [("make", .int y)], [.un, .un]⟩ := by
  refine run_x (y := ⟨"NoMake", [("make", .int y)], [.dat false (dTT net), .dat true (.int y)]⟩) rfl ?_ rfl
  unfold b_p_elders_of
  apply we_exprX
  exact x_callX (y := ⟨"NoMake", [("make", .int y)], [.un, .un]⟩) (a_cons (e_var rfl) (a_cons (e_var rfl) a_nil)) rfl (check_x net y h)
theorem heirsOf_x (net : List (List Int)) (y : Int) (h : ¬ (0 ≤ y ∧ y < (net.length : Int))) : u_p_heirs_of [.d (dTT net), .d (.int y)] = .exc ⟨"NoMake", [("make", .int y)], [.un, .un]⟩ := by
  refine run_x (y := ⟨"NoMake", [("make", .int y)], [.dat false (dTT net), .dat true (.int y), .un, .un]⟩) rfl ?_ rfl
  unfold b_p_heirs_of
  apply we_exprX
  exact x_callX (y := ⟨"NoMake", [("make", .int y)], [.un, .un]⟩) (a_cons (e_var rfl) (a_cons (e_var rfl) a_nil)) rfl (check_x net y h)
/-- of two numbers the first that is no make's -/
def badOf (n : Nat) (a b : Int) : Option Int := if 0 ≤ a ∧ a < (n : Int) then (if 0 ≤ b ∧ b < (n : Int) then none else some b) else some a
theorem comesOf_x (net : List (List Int)) (a b x : Int) (h : badOf net.length a b = some x) : u_p_comes_of [.d (dTT net), .d (.int a), .d (.int b)] = .exc ⟨"NoMake", [("make", .int x)], [.un, .un, .un]⟩ := by
  refine run_x (y := ⟨"NoMake", [("make", .int x)], [.dat false (dTT net), .dat true (.int a), .dat true (.int b)]⟩) rfl ?_ rfl
  unfold b_p_comes_of
  unfold badOf at h
  split at h
  · rename_i h1
    split at h
    · cases h
    · rename_i h2
      cases h
      refine we_oexprX (x_call (a_cons (e_var rfl) (a_cons (e_var rfl) a_nil)) rfl (check_q net a h1.1 h1.2)) rfl ?_
      apply we_exprX
      exact x_callX (y := ⟨"NoMake", [("make", .int b)], [.un, .un]⟩) (a_cons (e_var rfl) (a_cons (e_var rfl) a_nil)) rfl (check_x net b h2)
  · rename_i h1
    cases h
    apply we_exprX
    exact x_callX (y := ⟨"NoMake", [("make", .int a)], [.un, .un]⟩) (a_cons (e_var rfl) (a_cons (e_var rfl) a_nil)) rfl (check_x net a h1)
theorem wayTo_x (net : List (List Int)) (a b x : Int) (h : badOf net.length a b = some x) : u_p_way_to [.d (dTT net), .d (.int a), .d (.int b)] = .exc ⟨"NoMake", [("make", .int x)], [.un, .un, .un]⟩ := by
  refine run_x (y := ⟨"NoMake", [("make", .int x)], [.dat false (dTT net), .dat true (.int a), .dat true (.int b), .un, .un, .un]⟩) rfl ?_ rfl
  unfold b_p_way_to
  unfold badOf at h
  split at h
  · rename_i h1
    split at h
    · cases h
    · rename_i h2
      cases h
      refine we_oexprX (x_call (a_cons (e_var rfl) (a_cons (e_var rfl) a_nil)) rfl (check_q net a h1.1 h1.2)) rfl ?_
      apply we_exprX
      exact x_callX (y := ⟨"NoMake", [("make", .int b)], [.un, .un]⟩) (a_cons (e_var rfl) (a_cons (e_var rfl) a_nil)) rfl (check_x net b h2)
  · rename_i h1
    cases h
    apply we_exprX
    exact x_callX (y := ⟨"NoMake", [("make", .int a)], [.un, .un]⟩) (a_cons (e_var rfl) (a_cons (e_var rfl) a_nil)) rfl (check_x net a h1)
end PD


set_option linter.all false
set_option maxRecDepth 100000
set_option maxHeartbeats 0
set_option autoImplicit false
namespace PD
open PySem L2
/-- a comprehension whose parts may change the state -/
theorem n_compS {α : Type} {enc : α → PyData} (xs : List α) {S : Type} (Rel : Nat → List PyData → S → Prop) (sh : S → List Sl) (s0 : S) {vs : List Nat} {g : DG} {it : DI} {t : DT} {e : DF} {Γ Γ1 : List Sl} {fr : Bool} (h1 : it Γ = .val ((xs.map enc, fr), Γ1)) (hs : xs.length < 2 ^ 20) (h0 : wipeG Γ1 vs = sh s0) (hr : Rel 0 [] s0)
    (hb : ∀ (i : Nat) (x : α) (out : List PyData) (s : S), xs[i]? = some x → Rel i out s → ∃ Γ2, g fr (enc x) (sh s) = some Γ2 ∧ ∃ z Γ3, t Γ2 = .val (z, Γ3) ∧ (z = true → ∃ o Γ4 s', e Γ3 = .val (.d true o, Γ4) ∧ wipeG Γ4 vs = sh s' ∧ Rel (i + 1) (out ++ [o]) s') ∧ (z = false → ∃ s', wipeG Γ3 vs = sh s' ∧ Rel (i + 1) out s')) :
    ∃ out s, nComp vs g it t e Γ = .val (out, sh s) ∧ Rel xs.length out s := by
  have key : Ok (nComp vs g it t e Γ) fun z => ∃ s, z.2 = sh s ∧ Rel xs.length z.1 s := by
    unfold nComp
    rw [h1, bind_val]
    have : szB (xs.map enc) = true := szB_map hs
    show Ok ((R.req (szB (xs.map enc))).bind _) _
    rw [this, req_true, bind_val, h0]
    refine ok_compU (fun i out Γ => ∃ s, Γ = sh s ∧ Rel i out s) (xs.map enc) ⟨s0, rfl, hr⟩ (fun i d out Γ hd hI => ?_) fun out Γ hI => ?_
    · obtain ⟨s, rfl, hI⟩ := hI
      obtain ⟨x, hx, rfl⟩ := gmap hd
      obtain ⟨Γ2, q1, z, Γ3, q2, hT, hF⟩ := hb i x out s hx hI
      refine ⟨Γ2, q1, ok_of q2 ?_⟩
      cases z with
      | true =>
        obtain ⟨o, Γ4, s', q3, q4, q5⟩ := hT rfl
        exact ok_of q3 ⟨o, rfl, s', q4, q5⟩
      | false =>
        obtain ⟨s', q4, q5⟩ := hF rfl
        exact ⟨s', q4, q5⟩
    · rw [List.length_map] at hI
      exact hI
  obtain ⟨⟨out, Γ'⟩, e1, s, h2, h3⟩ := key
  have h2 : Γ' = sh s := h2
  subst h2
  exact ⟨out, s, e1, h3⟩
theorem e_andT {Γ Γ1 Γ2 : List Sl} {f g : DF} {f1 f2 z x : Bool} (h1 : f Γ = .val (.d f1 (.bool x), Γ1)) (hx : x = true) (h2 : g Γ1 = .val (.d f2 (.bool z), Γ2)) : dAnd f g Γ = .val (.d true (.bool z), Γ2) := by
  subst hx
  unfold dAnd; rw [h1, bind_val]
  show ((g Γ1).bind _) = _
  rw [h2]; rfl
theorem e_andF {Γ Γ1 : List Sl} {f g : DF} {f1 x : Bool} (h1 : f Γ = .val (.d f1 (.bool x), Γ1)) (hx : x = false) : dAnd f g Γ = .val (.d true (.bool false), Γ1) := by
  subst hx
  unfold dAnd; rw [h1]; rfl
/-! ## decks -/
abbrev Dk3 := Int × Int × Int
abbrev dk (d : Dk3) : Cl := .lst [.int d.1, .int d.2.1, .int d.2.2]
def BB (d : Dk3) (B : Nat) : Prop := 0 ≤ d.2.1 ∧ d.2.1 ≤ (B : Int)
theorem BB.mono {d : Dk3} {B C : Nat} (h : BB d B) (hc : B ≤ C) : BB d C := ⟨h.1, by have := h.2; omega⟩
theorem draw_q (d : Dk3) (B : Nat) (hd : BB d B) (hB : B < 2 ^ 60) (m : Int) (hm : 0 < m) (hm2 : m < 2 ^ 64) : ∃ (r : Int) (d' : Dk3), u_qdraw [.c (dk d), .d (.int m)] = .val (.d (.int r), [.io (dk d'), .un]) ∧ 0 ≤ r ∧ r < m ∧ BB d' (B + 1) := by
  obtain ⟨h0, h1⟩ := hd
  have key : Ok (u_qdraw [.c (dk d), .d (.int m)]) fun z => ∃ (r : Int) (d' : Dk3), z = (.d (.int r), [.io (dk d'), .un]) ∧ 0 ≤ r ∧ r < m ∧ BB d' (B + 1) := by
    refine ok_run rfl ?_
    unfold b_qdraw
    apply_assumption
    · intro _
      bv_decide
      ac_rfl
      and_intros
      apply w_put
      · exact e_frz (e_I (e_ixS (e_varI rfl) e_C rfl rfl) (e_var rfl) (k_div (divP hm hm2)))
      · rfl
      · exact e_C
      · rfl
      · exact putC_lst (j := 0) (by simp)
      nofun
      exact ⟨_, _, rfl, rfl, _, (d.1 / m, d.2.1, d.2.2), rfl, Int.emod_nonneg _ (by omega), Int.emod_lt_of_pos _ hm, h0, by dsimp only; omega⟩
    · intro _
      and_intros
      apply w_put
      · exact e_frz (e_add (e_ixS (e_varI rfl) e_C rfl rfl) e_C)
      · rfl
      · exact e_C
      · rfl
      · exact putC_lst (j := 1) (by simp)
      bv_decide
      ac_rfl
      nofun
      ac_rfl
      exact ⟨_, _, rfl, rfl, _, (d.1, d.2.1 + 1, d.2.2), rfl, Int.emod_nonneg _ (by omega), Int.emod_lt_of_pos _ hm, by dsimp only; omega, by dsimp only; omega⟩
  obtain ⟨z, e, r, d', rfl, h⟩ := key
  exact ⟨r, d', e, h⟩
theorem deck_q (ns : List Int) (k : Nat) : ∃ d : Dk3, u_qdeck [.d (dL ns), .d (.int (k : Nat))] = .val (.c (dk d), [.un, .un]) ∧ BB d 0 := by
  have key : Ok (u_qdeck [.d (dL ns), .d (.int (k : Nat))]) fun z => ∃ d : Dk3, z = (.c (dk d), [.un, .un]) ∧ BB d 0 := by
    refine ok_run rfl ?_
    unfold b_qdeck
    bv_decide
    refine w_ifJ (S := Int) (fun _ => True) (fun c => [.dat false (dL ns), .dat true (.int (k : Nat)), .dat true (.int c)]) (t_tst (e_cmp (e_var rfl) (e_B (a_cons (e_var rfl) a_nil) (k_lenI rfl)) k_I)) ?_ ?_ ?_
    · intro hz
      have hz : k < ns.length := by simp at hz; omega
      bv_decide
      · exact e_ixL (e_var rfl) (e_var rfl) (at_nat (List.getElem?_eq_getElem hz))
      · rfl
      exact w_nil ⟨_, rfl, trivial⟩
    · intro _
      exact w_nil ⟨0, rfl, trivial⟩
    · rintro c _
      apply_assumption
      · intro _
        nofun
        ac_rfl
        exact ⟨_, _, rfl, rfl, (0, 0, _), rfl, by simp [BB]⟩
      · intro _
        nofun
        ac_rfl
        exact ⟨_, _, rfl, rfl, (c, 0, _), rfl, by simp [BB]⟩
  obtain ⟨z, e, d, rfl, h⟩ := key
  exact ⟨d, e, h⟩
theorem at4 {a b c d : PyData} {w : Int} (h0 : 0 ≤ w) (h1 : w < 4) : atI [a, b, c, d] w = some (if w = 0 then a else if w = 1 then b else if w = 2 then c else d) := by
  have : w = 0 ∨ w = 1 ∨ w = 2 ∨ w = 3 := by omega
  rcases this with rfl | rfl | rfl | rfl <;> rfl
theorem isElder_q (d : Dk3) (B : Nat) (hd : BB d B) (hB : B < 2 ^ 59) (way make el : Int) (h0 : 0 ≤ way) (h1 : way < 8) : ∃ (b : Bool) (d' : Dk3), u_qis_elder [.c (dk d), .d (.int way), .d (.int make), .d (.int el)] = .val (.d (.bool b), [.io (dk d'), .un, .un, .un]) ∧ BB d' (B + 1) := by
  have key : Ok (u_qis_elder [.c (dk d), .d (.int way), .d (.int make), .d (.int el)]) fun z => ∃ (b : Bool) (d' : Dk3), z = (.d (.bool b), [.io (dk d'), .un, .un, .un]) ∧ BB d' (B + 1) := by
    refine ok_run rfl ?_
    unfold b_qis_elder
    apply_assumption
    · intro hz
      have hz : way < 4 := by simpa using hz
      have hm := at4 (a := .int 2) (b := .int 2) (c := .int 3) (d := .int 4) h0 hz
      obtain ⟨m, hm, m0, m1⟩ : ∃ m : Int, atI [PyData.int 2, .int 2, .int 3, .int 4] way = some (.int m) ∧ 0 < m ∧ m < 2 ^ 64 := by
        rw [hm]
        split
        · exact ⟨2, rfl, by omega, by omega⟩
        · split
          · exact ⟨2, rfl, by omega, by omega⟩
          · split
            · exact ⟨3, rfl, by omega, by omega⟩
            · exact ⟨4, rfl, by omega, by omega⟩
      obtain ⟨r, d', hr, r0, r1, hd'⟩ := draw_q d B hd (by omega) m m0 m1
      and_intros
      apply w_ret
      · apply e_cmp
        · apply e_x
          · apply x_callE
            · apply a_cons
              · exact e_varI rfl
              · apply a_cons
                · apply e_ixL
                  · array_mem_dec
                  · exact e_var rfl
                  · exact hm
                · exact a_nil
            · rfl
            · rfl
            · rfl
            · rfl
            · exact hr
            · rfl
            · rfl
          · rfl
        · exact e_C
        · exact k_eqI
      exact ⟨_, _, rfl, rfl, _, d', rfl, hd'⟩
    · intro hz
      have hz : 4 ≤ way := by simpa using hz
      obtain ⟨r, d', hr, r0, r1, hd'⟩ := draw_q d B hd (by omega) 2 (by omega) (by omega)
      apply_assumption
      · intro _
        and_intros
        by_cases hc : make % 2 = el % 2
        · apply w_ret
          · apply e_andT
            · exact e_cmp (e_I (e_var rfl) e_C (k_mod (modP (by decide)))) (e_I (e_var rfl) e_C (k_mod (modP (by decide)))) k_eqI
            · exact decide_eq_true hc
            · apply e_cmp
              · array_mem_dec
              · exact e_C
              · exact k_eqI
          exact ⟨_, _, rfl, rfl, _, d', rfl, hd'⟩
        · apply w_ret
          · apply e_andF
            · exact e_cmp (e_I (e_var rfl) e_C (k_mod (modP (by decide)))) (e_I (e_var rfl) e_C (k_mod (modP (by decide)))) k_eqI
            · exact decide_eq_false hc
          exact ⟨_, _, rfl, rfl, _, d, rfl, hd.mono (by omega)⟩
      · intro _
        and_intros
        have hm := at4 (a := .int (make - 1)) (b := .int 0) (c := .int 0) (d := .int ((make - 1) / 2)) (w := way - 4) (by omega) (by omega)
        obtain ⟨m, hm⟩ : ∃ m : Int, atI [PyData.int (make - 1), .int 0, .int 0, .int ((make - 1) / 2)] (way - 4) = some (.int m) := by
          rw [hm]
          split
          · exact ⟨_, rfl⟩
          · split
            · exact ⟨_, rfl⟩
            · split <;> exact ⟨_, rfl⟩
        apply w_ret
        · apply e_cmp
          · exact e_var rfl
          · apply e_ixL
            · array_mem_dec
              ac_rfl
            · array_mem_dec
            · exact hm
          · exact k_eqI
        exact ⟨_, _, rfl, rfl, _, d, rfl, hd.mono (by omega)⟩
  obtain ⟨z, e, b, d', rfl, h⟩ := key
  exact ⟨b, d', e, h⟩
theorem netOk_snoc {net : List (List Int)} {row : List Int} (h : NetOk net) (h1 : ∀ e ∈ row, 0 ≤ e ∧ e < (net.length : Int)) (h2 : row.Pairwise (· < ·)) : NetOk (net ++ [row]) := by
  intro k r hr
  by_cases hk : k < net.length
  · rw [List.getElem?_append_left hk] at hr
    exact h k r hr
  · have hk2 : k < (net ++ [row]).length := (List.getElem?_eq_some_iff.mp hr).1
    simp at hk2
    have : k = net.length := by omega
    subst this
    simp at hr
    subst hr
    exact ⟨h1, h2⟩
theorem net_q (d : Dk3) (B : Nat) (hd : BB d B) (hB : B < 2 ^ 50) (most great : Nat) (h1 : 1 ≤ most) (h2 : 1 ≤ great) (h3 : most ≤ 100) (h4 : great ≤ 100) : ∃ (net : List (List Int)) (d' : Dk3), u_qnet [.c (dk d), .d (.int (most : Nat)), .d (.int (great : Nat))] = .val (.d (dTT net), [.io (dk d'), .un, .un]) ∧ NetOk net ∧ 1 ≤ net.length ∧ (net.length ≤ most ∨ net.length ≤ great) ∧ BB d' (B + 20000) := by
  have key : Ok (u_qnet [.c (dk d), .d (.int (most : Nat)), .d (.int (great : Nat))]) fun z => ∃ (net : List (List Int)) (d' : Dk3), z = (.d (dTT net), [.io (dk d'), .un, .un]) ∧ NetOk net ∧ 1 ≤ net.length ∧ (net.length ≤ most ∨ net.length ≤ great) ∧ BB d' (B + 20000) := by
    refine ok_run rfl ?_
    unfold b_qnet
    obtain ⟨r1, d1, hr1, r10, r11, hd1⟩ := draw_q d B hd (by omega) 8 (by omega) (by omega)
    obtain ⟨bd, hbd, b0, b1⟩ : ∃ bd : Nat, atI [PyData.int (most : Nat), .int (great : Nat)] (b2n (decide (r1 = 5))) = some (.int (bd : Nat)) ∧ 1 ≤ bd ∧ (bd = most ∨ bd = great) := by
      by_cases h : r1 = 5
      · rw [decide_eq_true h]; exact ⟨great, rfl, h2, .inr rfl⟩
      · rw [decide_eq_false h]; exact ⟨most, rfl, h1, .inl rfl⟩
    have hbd2 : bd ≤ 100 := by rcases b1 with rfl | rfl <;> omega
    apply w_set
    · apply e_frz
      apply e_ixL
      · array_mem_dec
      · apply e_B
        · apply a_cons
          · array_mem_dec
          · exact a_nil
        · rfl
      · exact hbd
    obtain ⟨r2', d2, hr2, r20, r21, hd2⟩ := draw_q d1 (B + 1) hd1 (by omega) (bd : Nat) (by omega) (by omega)
    obtain ⟨r2, rfl⟩ : ∃ n : Nat, r2' = (n : Int) := ⟨r2'.toNat, by omega⟩
    obtain ⟨r3, d3, hr3, r30, r31, hd3⟩ := draw_q d2 (B + 1 + 1) hd2 (by omega) 8 (by omega) (by omega)
    bv_decide
    bv_decide
    bv_decide
    clear hr1 hr2 hr3
    refine w_forR (N := 1 + (r2 : Int)) (S := List (List Int) × Dk3) (fun i s => s.1.length = i ∧ NetOk s.1 ∧ BB s.2 (B + 3 + 100 * i)) (fun s => [.io (dk s.2), .dat true (.int (most : Nat)), .dat true (.int (great : Nat)), .dat true (.int (bd : Nat)), .dat true (.int (1 + (r2 : Int))), .dat true (.int r3), .own (.lst (s.1.map fun r => dT r)), .un, .un]) ([], d3) (i_range1 (e_var rfl) (cRng_of (by decide) (by decide) (by omega) (by omega))) rfl ⟨rfl, fun k r hr => by simp at hr, hd3.mono (by omega)⟩ ?_ ?_
    · rintro i ⟨net, d4⟩ hi ⟨hl, hN, hd4⟩
      dsimp only at hl hN hd4 ⊢
      refine ⟨_, rfl, ?_⟩
      obtain ⟨out, ⟨d5, row⟩, ec, hRo, hd5, hrow1, hrow2⟩ := n_compS (enc := PyData.int) (rng 0 (i : Nat)) (S := Dk3 × List Int) (fun j out s => out = s.2.map PyData.int ∧ BB s.1 (B + 3 + 100 * i + j) ∧ (∀ e ∈ s.2, 0 ≤ e ∧ e < (j : Int)) ∧ s.2.Pairwise (· < ·)) (fun s => [.io (dk s.1), .dat true (.int (most : Nat)), .dat true (.int (great : Nat)), .dat true (.int (bd : Nat)), .dat true (.int (1 + (r2 : Int))), .dat true (.int r3), .own (.lst (net.map fun r => dT r)), .dat true (.int (i : Nat)), .un]) (d4, [])
        (vs := [8]) (g := gN 8) (it := iRange1 (dVar 7)) (t := dTst (eX (xCallC u_qis_elder 0 [] (dAc (dVar 0) (dAc (dVar 5) (dAc (dVar 7) (dAc (dVar 8) dA0))))))) (e := dFrz (dVar 8)) (Γ := [.io (dk d4), .dat true (.int (most : Nat)), .dat true (.int (great : Nat)), .dat true (.int (bd : Nat)), .dat true (.int (1 + (r2 : Int))), .dat true (.int r3), .own (.lst (net.map fun r => dT r)), .dat true (.int (i : Nat)), .un]) (i_range1 (e_var rfl) (cRng_of (by decide) (by decide) (by omega) (by omega))) (by rw [rng_len]; omega) rfl ⟨rfl, hd4, by simp, by simp⟩ (by
          rintro j x out ⟨d5, row⟩ hx ⟨rfl, hd5, hw1, hw2⟩
          dsimp only at hd5 hw1 hw2 ⊢
          obtain ⟨rfl, hj⟩ := rng_at hx
          obtain ⟨b, d6, he, hd6⟩ := isElder_q d5 _ hd5 (by omega) r3 (i : Nat) (j : Nat) r30 r31
          refine ⟨_, rfl, b, _, t_tst (e_x (x_callE (a_cons (e_varI rfl) (a_cons (e_var rfl) (a_cons (e_var rfl) (a_cons (e_var rfl) a_nil)))) rfl rfl rfl rfl he rfl rfl) rfl), fun _ => ⟨_, _, (d6, row ++ [(j : Int)]), e_frz (e_var rfl), rfl, by rw [List.map_append]; rfl, hd6, ?_, ?_⟩, fun _ => ⟨(d6, row), rfl, rfl, hd6, fun e he => ?_, hw2⟩⟩
          · intro e he
            rcases List.mem_append.mp he with h | h
            · have := hw1 e h; omega
            · have : e = (j : Int) := by simpa using h
              omega
          · rw [List.pairwise_append]
            exact ⟨hw2, by simp, fun a ha b hb => by have : b = (j : Int) := by simpa using hb
                                                     have := (hw1 a ha).2
                                                     omega⟩
          · have := hw1 e he; omega)
      dsimp only at hRo hd5 hrow1 hrow2
      subst hRo
      rw [rng_len] at hd5 hrow1
      apply w_expr
      · apply e_ap
        · rfl
        · apply e_frz
          apply e_B
          · exact a_cons (e_ofN ec) a_nil
          · exact k_tup rfl
        · rfl
        · exact ltS_map (by omega)
      exact w_nil ⟨(net ++ [row], d5), by rw [List.map_append]; rfl, by simp; omega, netOk_snoc hN (fun e he => by have := hrow1 e he; omega) hrow2, hd5.mono (by simp; omega)⟩
    · rintro ⟨net, d4⟩ ⟨hl, hN, hd4⟩
      dsimp only at hl hN hd4 ⊢
      apply w_ret
      · exact e_B (a_cons (e_varO rfl) a_nil) (k_tup rfl)
      exact ⟨_, _, rfl, rfl, net, d4, rfl, hN, by omega, by rcases b1 with rfl | rfl; (left; omega); (right; omega), hd4.mono (by omega)⟩
  obtain ⟨z, e, net, d', rfl, h⟩ := key
  exact ⟨net, d', e, h⟩
/-! ## what comes of what, row by row -/
theorem zip_or (xs ys : List Bool) : zipD (xs.map PyData.bool) (ys.map PyData.bool) = (xs.zip ys).map fun z => .tuple [.bool z.1, .bool z.2] := by
  unfold zipD
  rw [List.zip, List.map_zipWith, List.zipWith_map]
theorem reach_q (net : List (List Int)) (hN : NetOk net) (hn : net.length ≤ 1000) : ∃ rs, Reach net rs ∧ u_qreach [.d (dTT net)] = .val (.c (.lst (rs.map fun r => dB1 r)), [.un]) := by
  have key : Ok (u_qreach [.d (dTT net)]) fun z => ∃ rs, Reach net rs ∧ z = (.c (.lst (rs.map fun r => dB1 r)), [.un]) := by
    refine ok_run rfl ?_
    unfold b_qreach
    bv_decide
    refine w_forE (enc := fun r => dT r) net (S := List (List Bool)) (fun i rs => rs.length = i ∧ ∀ (k : Nat) (row : List Bool), rs[k]? = some row → RowOk net.length row (Anc net k)) (fun rs => [.dat false (dTT net), .own (.lst (rs.map fun r => dB1 r)), .un, .un, .un, .un, .un, .un, .un]) [] (i_enumT (e_var rfl)) rfl ⟨rfl, fun k row h => by simp at h⟩ ?_ ?_
    · rintro i row rs hrow ⟨hl, hrs⟩
      have hi : i < net.length := (List.getElem?_eq_some_iff.mp hrow).1
      refine ⟨_, rfl, ?_⟩
      have e0 : (rng 0 (net.length : Nat)).map (fun x => PyData.bool (decide (x = (i : Int)))) = ((rng 0 (net.length : Nat)).map fun x => decide (x = (i : Int))).map PyData.bool := by rw [List.map_map]; rfl
      apply w_set
      · apply e_ofN
        refine n_map (enc := PyData.int) (rng 0 (net.length : Nat)) (fun x => .bool (decide (x = (i : Int)))) (i_range1 (fr := true) (e_B (a_cons (e_var rfl) a_nil) (k_lenJ rfl)) (cRng_of (by decide) (by decide) (by omega) (by omega))) (by rw [rng_len]; omega) rfl fun x hx => ⟨_, rfl, rfl, ?_⟩
        exact e_frz (e_cmp (e_var rfl) (e_var rfl) k_eqI)
      rw [e0]
      have ok0 : RowOk net.length ((rng 0 (net.length : Nat)).map fun x => decide (x = (i : Int))) (fun j => j = i) := by
        refine ⟨by rw [List.length_map, rng_len]; omega, fun j b hj => ?_⟩
        obtain ⟨x, hx, rfl⟩ := gmap hj
        obtain ⟨rfl, _⟩ := rng_at hx
        rw [decide_eq_true_iff]
        omega
      refine w_forL (enc := PyData.int) row (S := List Bool) (fun j own => RowOk net.length own (fun m => m = i ∨ ∃ k : Nat, (k : Int) ∈ row.take j ∧ Anc net k m)) (fun own => [.dat false (dTT net), .own (.lst (rs.map fun r => dB1 r)), .dat false (.int (i : Nat)), .dat false (dT row), .dat true (dB1 own), .un, .un, .un, .un]) _ (i_seqT (e_var rfl)) rfl (ok0.iff fun j => by simp) ?_ ?_
      · rintro j x own hx hown
        have hx2 := (hN i row hrow).1 x (mem_at hx)
        obtain ⟨k, rfl⟩ : ∃ k : Nat, x = (k : Int) := ⟨x.toNat, by omega⟩
        obtain ⟨rk, hrk⟩ : ∃ rk, rs[k]? = some rk := ⟨_, List.getElem?_eq_getElem (by omega)⟩
        have hok := hrs k rk hrk
        refine ⟨_, rfl, ?_⟩
        have e1 : (own.zip rk).map (fun z => PyData.bool (z.1 || z.2)) = ((own.zip rk).map fun z => z.1 || z.2).map PyData.bool := by rw [List.map_map]; rfl
        apply w_set
        · apply e_ofN
          refine n_map (enc := fun z : Bool × Bool => .tuple [.bool z.1, .bool z.2]) (own.zip rk) (fun z => .bool (z.1 || z.2)) (fr := true) (Γ1 := [.dat false (dTT net), .own (.lst (rs.map fun r => dB1 r)), .dat false (.int (i : Nat)), .dat false (dT row), .dat true (dB1 own), .dat false (.int (k : Nat)), .un, .un, .un]) ?_ ?_ rfl fun z hz => ⟨_, rfl, rfl, ?_⟩
          · rw [← zip_or]
            exact i_zipX (f1 := true) (f2 := true) (e_var rfl) (e_ixS (e_varO rfl) (e_var rfl) rfl (at_nat hrk)) rfl rfl
          · have h1 := hown.1
            rw [List.length_zip]; omega
          · exact e_frz (e_or (e_var rfl) fun _ => e_var rfl)
        rw [e1]
        refine w_nil ⟨_, rfl, ?_, fun m b hm => ?_⟩
        · have h1 := hown.1
          have h2 := hok.1
          rw [List.length_map, List.length_zip]; omega
        · obtain ⟨z, hz, rfl⟩ := gmap hm
          obtain ⟨z1, z2⟩ := z
          rw [List.getElem?_zip_eq_some] at hz
          have q1 := hown.2 m z1 hz.1
          have q2 := hok.2 m z2 hz.2
          simp only [Bool.or_eq_true, q1, q2]
          rw [take_step hx]
          constructor
          · rintro ((h | ⟨p, h1, h2⟩) | h)
            · exact .inl h
            · exact .inr ⟨p, List.mem_append.mpr (.inl h1), h2⟩
            · exact .inr ⟨k, by simp, h⟩
          · rintro (h | ⟨p, h1, h2⟩)
            · exact .inl (.inl h)
            · rcases List.mem_append.mp h1 with h1 | h1
              · exact .inl (.inr ⟨p, h1, h2⟩)
              · have : p = k := by have : (p : Int) = k := by simpa using h1
                                   omega
                subst this; exact .inr h2
      · rintro own hown
        bv_decide
        · exact ltS_map (by omega)
        refine w_nil ⟨rs ++ [own], by rw [List.map_append]; rfl, by simp; omega, fun k r hk => ?_⟩
        by_cases hlt : k < rs.length
        · rw [List.getElem?_append_left hlt] at hk
          exact hrs k r hk
        · have hk2 : k < (rs ++ [own]).length := (List.getElem?_eq_some_iff.mp hk).1
          simp at hk2
          have : k = rs.length := by omega
          subst this
          simp at hk
          subst hk
          refine hown.iff fun m => ?_
          rw [List.take_length, hl, anc_iff hrow]
    · rintro rs ⟨hl, hrs⟩
      apply w_retO rfl
      exact ⟨_, _, rfl, rfl, rs, ⟨hl, hrs⟩, rfl⟩
  obtain ⟨z, e, rs, h, rfl⟩ := key
  exact ⟨rs, h, e⟩
end PD


set_option linter.all false
set_option maxRecDepth 100000
set_option maxHeartbeats 0
set_option autoImplicit false
namespace PD
open PySem L2
theorem great_q (d : Dk3) (B : Nat) (hd : BB d B) (hB : B < 2 ^ 50) (m : Int) (hm : 0 < m) : ∃ (r : Int) (d' : Dk3), u_qgreat [.c (dk d), .d (.int m)] = .val (.d (.int r), [.io (dk d'), .un]) ∧ 0 ≤ r ∧ r < m ∧ BB d' (B + 5) := by
  have key : Ok (u_qgreat [.c (dk d), .d (.int m)]) fun z => ∃ (r : Int) (d' : Dk3), z = (.d (.int r), [.io (dk d'), .un]) ∧ 0 ≤ r ∧ r < m ∧ BB d' (B + 5) := by
    refine ok_run rfl ?_
    unfold b_qgreat
    bv_decide
    refine w_forR (S := Int × Dk3) (fun i s => BB s.2 (B + i)) (fun s => [.io (dk s.2), .dat true (.int m), .dat true (.int s.1), .un]) (0, d) (i_range1 e_C rfl) rfl hd ?_ ?_
    · rintro i ⟨x, d⟩ hi hd
      dsimp only at hd ⊢
      refine ⟨_, rfl, ?_⟩
      obtain ⟨r, d', hr, r0, r1, hd'⟩ := draw_q d (B + i) hd (by omega) ((10 : Int) ^ (6 : Int).toNat) (by decide) (by decide)
      apply w_set
      · apply e_add
        · exact e_I (e_var rfl) (e_I e_C e_C (k_pow rfl)) (k_mul (mulR (by decide)))
        · array_mem_dec
      exact w_nil ⟨(_, d'), rfl, hd'⟩
    · rintro ⟨x, d⟩ hd
      dsimp only at hd ⊢
      nofun
      ac_rfl
      exact ⟨_, _, rfl, rfl, _, d, rfl, Int.emod_nonneg _ (by omega), Int.emod_lt_of_pos _ hm, hd⟩
  obtain ⟨z, e, r, d', rfl, h⟩ := key
  exact ⟨r, d', e, h⟩
/-- slices from the begin -/
theorem x_cut0 {Γ Γ1 Γ2 : List Sl} {f : DF} {o : DO} {a : AV} {ds : List PyData} {n : Int} (h1 : f Γ = .val (a, Γ1)) (h2 : o Γ1 = .val (some n, Γ2)) (h3 : lsA Γ2 a = some ds) (hn : 0 ≤ n) : xCut f oNone o Γ = .val (.c (.lst (ds.take n.toNat)), Γ2) := by
  unfold xCut
  rw [h1, bind_val]
  show ((o Γ1).bind _) = _
  rw [h2, bind_val]
  unfold cutX
  simp only [h3]
  show R.val (Rs.c (Cl.lst (cutD ds none (some n))), Γ2) = _
  have : cutD ds none (some n) = ds.take n.toNat := by
    obtain ⟨k, rfl⟩ : ∃ k : Nat, n = (k : Int) := ⟨n.toNat, by omega⟩
    unfold cutD
    rw [HT.sIx_none, HT.sIx_nat, List.drop_zero, Nat.sub_zero, Int.toNat_natCast]
    by_cases h : k ≤ ds.length
    · rw [Nat.min_eq_left h]
    · rw [Nat.min_eq_right (by omega), List.take_length, List.take_of_length_le (by omega)]
  rw [this]
theorem o_some {Γ Γ1 : List Sl} {f : DF} {fr : Bool} {n : Int} (h : f Γ = .val (.d fr (.int n), Γ1)) : oSome f Γ = .val (some n, Γ1) := by unfold oSome; rw [h]; rfl
theorem e_popAt {Γ Γ1 : List Sl} {m : Nat} {io : Bool} {es ds : List PyData} {f : DF} {fr : Bool} {j : Nat} {y : PyData} (h0 : cellL Γ m = some (io, es)) (h1 : f Γ = .val (.d fr (.int (j : Nat)), Γ1)) (h2 : cellL Γ1 m = some (io, ds)) (h3 : ds[j]? = some y) (hj : j < 2 ^ 62) : dLm m qPopAt (dAc f dA0) Γ = .val (.d true y, Γ1.set m (mkS io (.lst (ds.eraseIdx j)))) := by
  unfold dLm
  rw [h0, ofO_some, bind_val, a_cons h1 a_nil, bind_val, h2, ofO_some, bind_val]
  unfold qPopAt
  have hlt := (List.getElem?_eq_some_iff.mp h3).1
  simp only
  rw [decide_eq_true (by omega), req_true, bind_val, ixN_nat hlt, ofO_some, bind_val, h3]
  rfl
theorem map_erase {α β : Type} (f : α → β) : ∀ (xs : List α) (n : Nat), (xs.eraseIdx n).map f = (xs.map f).eraseIdx n
  | [], _ => rfl
  | _ :: _, 0 => rfl
  | x :: xs, n + 1 => by simp [map_erase f xs n]
theorem few_q (d : Dk3) (B : Nat) (hd : BB d B) (hB : B < 2 ^ 50) (many : Nat) (h1 : 1 ≤ many) (h2 : many ≤ 100) (most : Int) (hm : 0 < most) : ∃ (xs : List Int) (d' : Dk3), u_qfew [.c (dk d), .d (.int (many : Nat)), .d (.int most)] = .val (.c (.lst (xs.map PyData.int)), [.io (dk d'), .un, .un]) ∧ xs ≠ [] ∧ xs.length ≤ many + 2 ∧ xs.length ≤ most + 2 ∧ (∀ x ∈ xs, 0 ≤ x ∧ x < (many : Int)) ∧ BB d' (B + 200) := by
  have key : Ok (u_qfew [.c (dk d), .d (.int (many : Nat)), .d (.int most)]) fun z => ∃ (xs : List Int) (d' : Dk3), z = (.c (.lst (xs.map PyData.int)), [.io (dk d'), .un, .un]) ∧ xs ≠ [] ∧ xs.length ≤ many + 2 ∧ xs.length ≤ most + 2 ∧ (∀ x ∈ xs, 0 ≤ x ∧ x < (many : Int)) ∧ BB d' (B + 200) := by
    refine ok_run rfl ?_
    unfold b_qfew
    apply w_setX
    · apply x_c
      apply c_l
      exact n_lrng1 (e_var rfl) (by unfold cLrg; rw [cRng_of (by decide) (by decide) (by omega) (by omega)]; exact decide_eq_true (by omega))
    bv_decide
    have hmin : min2 (many : Nat) most ≤ (many : Nat) ∧ min2 (many : Nat) most ≤ most ∧ 0 < min2 (many : Nat) most := by unfold min2; split <;> omega
    obtain ⟨r', d1, hr, r0, r1, hd1⟩ := draw_q d B hd (by omega) (min2 (many : Nat) most) hmin.2.2 (by omega)
    obtain ⟨r, rfl⟩ : ∃ n : Nat, r' = (n : Int) := ⟨r'.toNat, by omega⟩
    refine w_forR (N := 1 + (r : Int)) (Γ1 := [.io (dk d1), .dat true (.int (many : Nat)), .dat true (.int most), .own (.lst ((rng 0 (many : Nat)).map PyData.int)), .own (.lst []), .un]) (S := List Int × List Int × Dk3) (fun i s => s.1.length + i = many ∧ s.2.1.length = i ∧ (∀ x ∈ s.1, 0 ≤ x ∧ x < (many : Int)) ∧ (∀ x ∈ s.2.1, 0 ≤ x ∧ x < (many : Int)) ∧ BB s.2.2 (B + 1 + i)) (fun s => [.io (dk s.2.2), .dat true (.int (many : Nat)), .dat true (.int most), .own (.lst (s.1.map PyData.int)), .own (.lst (s.2.1.map PyData.int)), .un]) (rng 0 (many : Nat), [], d1) (i_range1 (fr := true) ?_ (cRng_of (by decide) (by decide) (by omega) (by omega))) rfl ⟨by show (rng 0 (many : Nat)).length + 0 = many; rw [rng_len]; omega, rfl, fun x hx => rng_mem0.mp hx, by simp, hd1⟩ ?_ ?_
    · array_mem_dec
    · rintro i ⟨lf, fo, d2⟩ hi ⟨q1, q2, q3, q4, q5⟩
      dsimp only at q1 q2 q3 q4 q5 ⊢
      refine ⟨_, rfl, ?_⟩
      obtain ⟨t', d3, ht, t0, t1, hd3⟩ := draw_q d2 (B + 1 + i) q5 (by omega) (lf.length : Nat) (by omega) (by omega)
      obtain ⟨t, rfl⟩ : ∃ n : Nat, t' = (n : Int) := ⟨t'.toNat, by omega⟩
      obtain ⟨y, hy⟩ : ∃ y, lf[t]? = some y := ⟨_, List.getElem?_eq_getElem (by omega)⟩
      have hy2 := q3 y (mem_at hy)
      apply w_expr
      · apply e_ap
        · rfl
        · apply e_frz
          apply e_popAt
          · rfl
          · array_mem_dec
          · rfl
          · rw [List.getElem?_map, hy]; rfl
          · omega
        · rfl
        · exact ltS_map (by omega)
      refine w_nil ⟨(lf.eraseIdx t, fo ++ [y], d3), ?_, ?_, by simp; omega, fun x hx => q3 x (List.mem_of_mem_eraseIdx hx), ?_, hd3⟩
      · rw [List.map_append, map_erase]; rfl
      · dsimp only; rw [List.length_eraseIdx]; split <;> omega
      · intro x hx
        rcases List.mem_append.mp hx with h | h
        · exact q4 x h
        · have : x = y := by simpa using h
          subst this; exact hy2
    · rintro ⟨lf, fo, d2⟩ ⟨q1, q2, q3, q4, q5⟩
      dsimp only at q1 q2 q3 q4 q5 ⊢
      obtain ⟨t, d3, ht, t0, t1, hd3⟩ := draw_q d2 _ q5 (by omega) 3 (by omega) (by omega)
      apply w_retC
      · apply c_l
        apply n_cat
        · exact e_varO rfl
        · apply e_x
          · apply x_cut0
            · exact e_varO rfl
            · apply o_some
              array_mem_dec
            · rfl
            · exact t0
          · rfl
        · rfl
        · rfl
        · exact szB_of (by simp; omega)
      refine ⟨_, _, rfl, rfl, fo ++ fo.take t.toNat, d3, by rw [List.map_append, List.map_take], ?_, ?_, ?_, ?_, hd3.mono (by omega)⟩
      · intro e
        have : fo = [] := (List.append_eq_nil_iff.mp e).1
        rw [this] at q2
        simp at q2
        omega
      · simp; omega
      · simp; omega
      · intro x hx
        rcases List.mem_append.mp hx with h | h
        · exact q4 x h
        · exact q4 x (List.mem_of_mem_take h)
  obtain ⟨z, e, xs, d', rfl, h⟩ := key
  exact ⟨xs, d', e, h⟩
theorem barred_q (d : Dk3) (B : Nat) (hd : BB d B) (hB : B < 2 ^ 50) (many : Nat) (h2 : many ≤ 100) : ∃ (xs : List Int) (d' : Dk3), u_qbarred [.c (dk d), .d (.int (many : Nat))] = .val (.c (.lst (xs.map PyData.int)), [.io (dk d'), .un]) ∧ xs.length ≤ many + 2 ∧ (∀ x ∈ xs, 0 ≤ x ∧ x < (many : Int)) ∧ BB d' (B + 400) := by
  have key : Ok (u_qbarred [.c (dk d), .d (.int (many : Nat))]) fun z => ∃ (xs : List Int) (d' : Dk3), z = (.c (.lst (xs.map PyData.int)), [.io (dk d'), .un]) ∧ xs.length ≤ many + 2 ∧ (∀ x ∈ xs, 0 ≤ x ∧ x < (many : Int)) ∧ BB d' (B + 400) := by
    refine ok_run rfl ?_
    unfold b_qbarred
    obtain ⟨w, d1, hw, w0, w1, hd1⟩ := draw_q d B hd (by omega) 4 (by omega) (by omega)
    bv_decide
    clear hw
    apply_assumption
    · intro _
      nofun
      exact ⟨_, _, rfl, rfl, [], d1, rfl, by simp, by simp, hd1.mono (by omega)⟩
    · intro _
      bv_decide
      obtain ⟨m, hm, m0, m1⟩ : ∃ m : Int, atI [PyData.int 2, .int 2, .int 4, .int 8] w = some (.int m) ∧ 0 < m ∧ m < 2 ^ 64 := by
        rw [at4 w0 w1]
        split
        · exact ⟨2, rfl, by omega, by omega⟩
        · split
          · exact ⟨2, rfl, by omega, by omega⟩
          · split
            · exact ⟨4, rfl, by omega, by omega⟩
            · exact ⟨8, rfl, by omega, by omega⟩
      refine w_forR (S := List Int × Dk3) (fun i s => s.1.length ≤ i ∧ (∀ x ∈ s.1, 0 ≤ x ∧ x < (many : Int)) ∧ BB s.2 (B + 1 + 2 * i)) (fun s => [.io (dk s.2), .dat true (.int (many : Nat)), .dat true (.int w), .own (.lst (s.1.map PyData.int)), .un]) ([], d1) (i_range1 (e_var rfl) (cRng_of (by decide) (by decide) (by omega) (by omega))) rfl ⟨by simp, by simp, hd1⟩ ?_ ?_
      · rintro i ⟨fo, d2⟩ hi ⟨q1, q2, q3⟩
        dsimp only at q1 q2 q3 ⊢
        refine ⟨_, rfl, ?_⟩
        obtain ⟨t, d3, ht, t0, t1, hd3⟩ := draw_q d2 _ q3 (by omega) m m0 m1
        apply w_ifB
        · apply t_tst
          apply e_cmp
          · apply e_x
            · apply x_callE
              · apply a_cons
                · exact e_varI rfl
                · apply a_cons
                  · apply e_ixL
                    · array_mem_dec
                    · exact e_var rfl
                    · exact hm
                  · exact a_nil
              · rfl
              · rfl
              · rfl
              · rfl
              · exact ht
              · rfl
              · rfl
            · rfl
          · exact e_C
          · exact k_eqI
        · intro _
          obtain ⟨a, d4, ha, a0, a1, hd4⟩ := draw_q d3 _ hd3 (by omega) ((fo.length : Nat) + 1) (by omega) (by omega)
          and_intros
          apply w_expr
          · apply e_ins
            · rfl
            · apply a_cons
              · array_mem_dec
              · exact a_cons (e_frz (e_var rfl)) a_nil
            · rfl
            · unfold cIns
              have : (2 : Nat) ^ 20 ≤ sizeLine := by decide
              rw [decide_eq_true (by rw [List.length_map]; omega), decide_eq_true ⟨by omega, by omega⟩]
              rfl
          and_intros
          refine w_nil ⟨(insI fo a (i : Int), d4), ?_, ?_, ?_, hd4.mono (by omega)⟩
          · unfold insI
            rw [List.map_append, List.map_append, List.map_take, List.map_drop]
            rfl
          · show (insI fo a _).length ≤ _
            unfold insI
            simp
            omega
          · intro x hx'
            unfold insI at hx'
            rcases List.mem_append.mp hx' with h | h
            · rcases List.mem_append.mp h with h | h
              · exact q2 x (List.mem_of_mem_take h)
              · have : x = (i : Int) := by simpa using h
                omega
            · exact q2 x (List.mem_of_mem_drop h)
        · intro _
          and_intros
          exact w_nil ⟨(fo, d3), rfl, by dsimp only; omega, q2, hd3.mono (by omega)⟩
      · rintro ⟨fo, d2⟩ ⟨q1, q2, q3⟩
        dsimp only at q1 q2 q3 ⊢
        obtain ⟨t, d3, ht, t0, t1, hd3⟩ := draw_q d2 _ q3 (by omega) 3 (by omega) (by omega)
        apply w_retC
        · apply c_l
          apply n_cat
          · exact e_varO rfl
          · apply e_x
            · apply x_cut0
              · exact e_varO rfl
              · apply o_some
                array_mem_dec
              · rfl
              · exact t0
            · rfl
          · rfl
          · rfl
          · exact szB_of (by simp; omega)
        refine ⟨_, _, rfl, rfl, fo ++ fo.take t.toNat, d3, by rw [List.map_append, List.map_take], ?_, ?_, hd3.mono (by omega)⟩
        · simp; omega
        · intro x hx
          rcases List.mem_append.mp hx with h | h
          · exact q2 x h
          · exact q2 x (List.mem_of_mem_take h)
  obtain ⟨z, e, xs, d', rfl, h⟩ := key
  exact ⟨xs, d', e, h⟩
end PD


set_option linter.all false
set_option maxRecDepth 100000
set_option maxHeartbeats 0
set_option autoImplicit false
namespace PD
open PySem L2
/-! the feed [cell, count, which] -/
theorem cellAt_t (ns : List Int) (k : Nat) : ∃ x : Int, u_qcell_at [.d (dL ns), .d (.int (k : Nat))] = .val (.d (.int x), [.un, .un]) := by
  have key : Ok (u_qcell_at [.d (dL ns), .d (.int (k : Nat))]) fun z => ∃ x : Int, z = (.d (.int x), [.un, .un]) := by
    refine ok_run rfl ?_
    unfold b_qcell_at
    apply_assumption
    · intro hz
      have hk : k < ns.length := by simpa using hz
      and_intros
      apply w_retF
      · apply e_ixL
        · exact e_var rfl
        · exact e_var rfl
        · exact at_nat (List.getElem?_eq_getElem hk)
      · rfl
      exact ⟨_, _, rfl, rfl, _, rfl⟩
    · intro _
      nofun
      exact ⟨_, _, rfl, rfl, 0, rfl⟩
  obtain ⟨z, e, x, rfl⟩ := key
  exact ⟨x, e⟩
theorem feed_t (ns : List Int) (k : Nat) : ∃ d : Dk3, u_qfeed [.d (dL ns), .d (.int (k : Nat))] = .val (.c (dk d), [.un, .un]) := by
  have key : Ok (u_qfeed [.d (dL ns), .d (.int (k : Nat))]) fun z => ∃ d : Dk3, z = (.c (dk d), [.un, .un]) := by
    refine ok_run rfl ?_
    unfold b_qfeed
    obtain ⟨x, hx⟩ := cellAt_t ns k
    apply w_retC
    · refine c_l (n_lst (a_cons (e_x (x_call (a_cons (e_var rfl) (a_cons (e_var rfl) a_nil)) rfl hx) rfl) (a_cons e_C (a_cons (e_frzD (e_var rfl)) a_nil))) rfl rfl)
    exact ⟨_, _, rfl, rfl, (x, 0, (k : Int)), rfl⟩
  obtain ⟨z, e, d, rfl⟩ := key
  exact ⟨d, e⟩
theorem take_t (d : Dk3) (m : Int) (hm : 0 < m) (hm2 : m < 2 ^ 64) : ∃ (r : Int) (d' : Dk3), u_qtake [.c (dk d), .d (.int m)] = .val (.d (.int r), [.io (dk d'), .un]) ∧ 0 ≤ r ∧ r < m := by
  have key : Ok (u_qtake [.c (dk d), .d (.int m)]) fun z => ∃ (r : Int) (d' : Dk3), z = (.d (.int r), [.io (dk d'), .un]) ∧ 0 ≤ r ∧ r < m := by
    refine ok_run rfl ?_
    unfold b_qtake
    apply w_put
    · exact e_frz (e_add (e_ixS (e_varI rfl) e_C rfl rfl) e_C)
    · rfl
    · exact e_C
    · rfl
    · exact putC_lst (j := 1) (by simp)
    apply_assumption
    · intro _
      bv_decide
      ac_rfl
      and_intros
      apply w_put
      · exact e_frz (e_I (e_ixS (e_varI rfl) e_C rfl rfl) (e_var rfl) (k_div (divP hm hm2)))
      · rfl
      · exact e_C
      · rfl
      · exact putC_lst (j := 0) (by simp)
      nofun
      exact ⟨_, _, rfl, rfl, _, (d.1 / m, d.2.1 + 1, d.2.2), rfl, Int.emod_nonneg _ (by omega), Int.emod_lt_of_pos _ hm⟩
    · intro _
      bv_decide
      ac_rfl
      bv_decide
      ac_rfl
      nofun
      ac_rfl
      exact ⟨_, _, rfl, rfl, _, (d.1, d.2.1 + 1, d.2.2), rfl, Int.emod_nonneg _ (by omega), Int.emod_lt_of_pos _ hm⟩
  obtain ⟨z, e, r, d', rfl, h⟩ := key
  exact ⟨r, d', e, h⟩
theorem net_t (d : Dk3) (most : Nat) (h1 : 1 ≤ most) (h2 : most ≤ 100) : ∃ (net : List (List Int)) (d' : Dk3), u_qnet_k12 [.c (dk d), .d (.int (most : Nat))] = .val (.d (dTT net), [.io (dk d'), .un]) ∧ NetOk net ∧ 1 ≤ net.length ∧ net.length ≤ most := by
  have key : Ok (u_qnet_k12 [.c (dk d), .d (.int (most : Nat))]) fun z => ∃ (net : List (List Int)) (d' : Dk3), z = (.d (dTT net), [.io (dk d'), .un]) ∧ NetOk net ∧ 1 ≤ net.length ∧ net.length ≤ most := by
    refine ok_run rfl ?_
    unfold b_qnet_k12
    obtain ⟨r1, d1, hr1, r10, r11⟩ := take_t d (most : Nat) (by omega) (by omega)
    obtain ⟨r2, d2, hr2, r20, r21⟩ := take_t d1 8 (by omega) (by omega)
    bv_decide
    bv_decide
    bv_decide
    clear hr1 hr2
    refine w_forR (N := 1 + r1) (S := List (List Int) × Dk3) (fun i s => s.1.length = i ∧ NetOk s.1) (fun s => [.io (dk s.2), .dat true (.int (most : Nat)), .dat true (.int (1 + r1)), .dat true (.int r2), .own (.lst (s.1.map fun r => dT r)), .un, .un, .un, .un, .un]) ([], d2) (i_range1 (e_var rfl) (cRng_of (by decide) (by decide) (by omega) (by omega))) rfl ⟨rfl, fun k r hr => by simp at hr⟩ ?_ ?_
    · rintro i ⟨net, d3⟩ hi ⟨hl, hN⟩
      dsimp only at hl hN ⊢
      refine ⟨_, rfl, ?_⟩
      bv_decide
      refine w_forR (N := (i : Nat)) (S := List Int × Dk3) (fun j s => s.1.length ≤ j ∧ (∀ e ∈ s.1, 0 ≤ e ∧ e < (j : Int)) ∧ s.1.Pairwise (· < ·)) (fun s => [.io (dk s.2), .dat true (.int (most : Nat)), .dat true (.int (1 + r1)), .dat true (.int r2), .own (.lst (net.map fun r => dT r)), .dat true (.int (i : Nat)), .own (.lst (s.1.map PyData.int)), .un, .un, .un]) ([], d3) (i_range1 (e_var rfl) (cRng_of (by decide) (by decide) (by omega) (by omega))) rfl ⟨by simp, by simp, by simp⟩ ?_ ?_
      · rintro j ⟨row, d4⟩ hj ⟨g1, g2, g3⟩
        dsimp only at g1 g2 g3 ⊢
        refine ⟨_, rfl, ?_⟩
        bv_decide
        obtain ⟨b, hb⟩ : ∃ b : Bool, atI [PyData.bool (decide ((i : Int) - j = 1)), .bool (decide ((j : Int) = 0)), .bool (decide ((i : Int) - j = 2)), .bool (decide ((i : Int) - j = 2 - (i : Int) % 2)), .bool false] (min2 r2 4) = some (.bool b) := by
          have : min2 r2 4 = 0 ∨ min2 r2 4 = 1 ∨ min2 r2 4 = 2 ∨ min2 r2 4 = 3 ∨ min2 r2 4 = 4 := by unfold min2; split <;> omega
          rcases this with e | e | e | e | e <;> rw [e] <;> exact ⟨_, rfl⟩
        apply w_set
        · apply e_frz
          apply e_ixL
          · apply e_ofN
            apply n_lst
            · apply a_cons
              · array_mem_dec
              · apply a_cons
                · array_mem_dec
                · apply a_cons
                  · array_mem_dec
                  · apply a_cons
                    · apply e_cmp
                      · array_mem_dec
                      · apply e_I
                        · array_mem_dec
                        · apply e_I
                          · array_mem_dec
                          · array_mem_dec
                          · exact k_mod (modP (by decide))
                        · exact k_sub
                      · exact k_eqI
                    · array_mem_dec
            · rfl
            · rfl
          · array_mem_dec
          · exact hb
        have fin : ∀ (z : Bool) (d5 : Dk3), W (bSeq (bIf (dTst (dVar 9)) (bSeq (bExpr (dLm 6 qAppend (dAc (dFrz (dVar 7)) dA0))) bNil) bNil) bNil)
            [.io (dk d5), .dat true (.int (most : Nat)), .dat true (.int (1 + r1)), .dat true (.int r2), .own (.lst (net.map fun r => dT r)), .dat true (.int (i : Nat)), .own (.lst (row.map PyData.int)), .dat true (.int (j : Nat)), .dat true (.int ((i : Nat) - (j : Nat))), .dat true (.bool z)]
            (fun w Γ2 => w = .nx ∧ ∃ s : List Int × Dk3, wipeG Γ2 [7, 8, 9] = [.io (dk s.2), .dat true (.int (most : Nat)), .dat true (.int (1 + r1)), .dat true (.int r2), .own (.lst (net.map fun r => dT r)), .dat true (.int (i : Nat)), .own (.lst (s.1.map PyData.int)), .un, .un, .un] ∧ s.1.length ≤ j + 1 ∧ (∀ e ∈ s.1, 0 ≤ e ∧ e < ((j + 1 : Nat) : Int)) ∧ s.1.Pairwise (· < ·)) := by
          intro z d5
          apply_assumption
          · intro _
            and_intros
            apply w_expr
            · apply e_ap
              · rfl
              · exact e_frz (e_var rfl)
              · rfl
              · exact ltS_map (by omega)
            and_intros
            refine w_nil ⟨rfl, (row ++ [(j : Int)], d5), by rw [List.map_append]; rfl, by simp; omega, fun e he => ?_, ?_⟩
            · rcases List.mem_append.mp he with h | h
              · have := g2 e h; omega
              · have : e = (j : Int) := by simpa using h
                omega
            · rw [List.pairwise_append]
              refine ⟨g3, by simp, fun a ha b hb => ?_⟩
              have h4 : b = (j : Int) := by simpa using hb
              have := (g2 a ha).2
              omega
          · intro _
            and_intros
            exact w_nil ⟨rfl, (row, d5), rfl, Nat.le_succ_of_le g1, fun e he => by have := g2 e he; omega, g3⟩
        have wk : ∀ {b : DS} {Γ : List Sl} {Q : Fw → List Sl → Prop} {R : List Sl → Prop}, W b Γ (fun w Γ2 => w = .nx ∧ R Γ2) → (∀ Γ2, R Γ2 → Q .nx Γ2) → W b Γ Q := fun h k => h.mono fun z hz => by
          obtain ⟨w, Γ2⟩ := z
          obtain ⟨rfl, h⟩ := hz
          exact k Γ2 h
        apply_assumption
        · intro hz
          have hz : 4 < r2 := by simpa using hz
          obtain ⟨q, d5, hq, q0, q1⟩ := take_t d4 (r2 - 3) (by omega) (by omega)
          bv_decide
          exact wk (fin _ d5) fun Γ2 ⟨s, e1, e2⟩ => ⟨s, e1, e2⟩
        · intro _
          and_intros
          exact wk (fin b d4) fun Γ2 ⟨s, e1, e2⟩ => ⟨s, e1, e2⟩
      · rintro ⟨row, d4⟩ ⟨g1, g2, g3⟩
        dsimp only at g1 g2 g3 ⊢
        apply w_expr
        · apply e_ap
          · rfl
          · apply e_frz
            apply e_B
            · exact a_cons (e_varO rfl) a_nil
            · exact k_tup rfl
          · rfl
          · exact ltS_map (by omega)
        exact w_nil ⟨(net ++ [row], d4), by rw [List.map_append]; rfl, by simp; omega, netOk_snoc hN (fun e he => by have := g2 e he; omega) g3⟩
    · rintro ⟨net, d4⟩ ⟨hl, hN⟩
      dsimp only at hl hN ⊢
      apply w_ret
      · exact e_B (a_cons (e_varO rfl) a_nil) (k_tup rfl)
      exact ⟨_, _, rfl, rfl, net, d4, rfl, hN, by omega, by omega⟩
  obtain ⟨z, e, net, d', rfl, h⟩ := key
  exact ⟨net, d', e, h⟩
theorem far_t (d : Dk3) (n : Int) (h1 : 0 < n) : ∃ (r : Int) (d' : Dk3), u_qfar [.c (dk d), .d (.int n)] = .val (.d (.int r), [.io (dk d'), .un]) ∧ (r < 0 ∨ n ≤ r) := by
  have key : Ok (u_qfar [.c (dk d), .d (.int n)]) fun z => ∃ (r : Int) (d' : Dk3), z = (.d (.int r), [.io (dk d'), .un]) ∧ (r < 0 ∨ n ≤ r) := by
    refine ok_run rfl ?_
    unfold b_qfar
    obtain ⟨r1, d1, hr1, r10, r11⟩ := take_t d 2 (by omega) (by omega)
    obtain ⟨r2, d2, hr2, r20, r21⟩ := take_t d1 (10 ^ 15) (by omega) (by omega)
    have hn : 0 ≤ r1 * r2 ^ 3 := Int.mul_nonneg r10 (Int.pow_nonneg r20)
    apply w_set
    · apply e_I
      · array_mem_dec
      · apply e_I
        · exact e_x (x_callE (a_cons (e_varI rfl) (a_cons (e_I e_C e_C (k_pow rfl)) a_nil)) rfl rfl rfl rfl hr2 rfl rfl) rfl
        · exact e_C
        · refine k_pow (decide_eq_true ⟨by decide, by decide, by omega⟩)
      · exact k_mul (mulL (by omega))
    clear hr1 hr2
    obtain ⟨r3, d3, hr3, r30, r31⟩ := take_t d2 2 (by omega) (by omega)
    show W _ [.io (dk d2), .dat true (.int n), .dat true (.int (r1 * r2 ^ 3))] _
    generalize r1 * r2 ^ 3 = far at hn
    by_cases e : r3 = 0
    · subst e
      apply w_ret
      · apply e_ixL (d := .int (-1 - far))
        · array_mem_dec
        · array_mem_dec
        · rfl
      exact ⟨_, _, rfl, rfl, _, d3, rfl, by omega⟩
    · have : r3 = 1 := by omega
      subst this
      apply w_ret
      · apply e_ixL (d := .int (n + far))
        · array_mem_dec
        · array_mem_dec
        · rfl
      exact ⟨_, _, rfl, rfl, _, d3, rfl, by omega⟩
  obtain ⟨z, e, r, d', rfl, h⟩ := key
  exact ⟨r, d', e, h⟩
theorem n_lrng3 {f g h : DF} {Γ Γ1 Γ2 Γ3 : List Sl} {f1 f2 f3 : Bool} {i j k : Int} (h1 : f Γ = .val (.d f1 (.int i), Γ1)) (h2 : g Γ1 = .val (.d f2 (.int j), Γ2)) (h3 : h Γ2 = .val (.d f3 (.int k), Γ3)) (hc : cLr3 i j k = true) : dLrng3 f g h Γ = .val ((rngC i j k).map PyData.int, Γ3) := by
  unfold dLrng3
  rw [h1, bind_val, h2, bind_val, h3, bind_val]
  show gq (cLr3 i j k) _ = _
  exact gq_of _ hc
theorem rngC_mem {a b c x : Int} (hc : 0 < c) (h : x ∈ rngC a b c) : a ≤ x ∧ x < b := by
  unfold rngC at h
  obtain ⟨k, hk, rfl⟩ := List.mem_map.mp h
  rw [List.mem_range] at hk
  unfold Builtin.Range.rangeSize at hk
  rw [if_pos hc] at hk
  by_cases hab : a < b
  · rw [if_pos hab] at hk
    have h1 : 0 ≤ (b - a - 1) / c := Int.ediv_nonneg (by omega) (by omega)
    have h2 : (k : Int) ≤ (b - a - 1) / c := by omega
    have h3 : (k : Int) * c ≤ b - a - 1 := (Int.le_ediv_iff_mul_le hc).mp h2
    have h4 : 0 ≤ (k : Int) * c := Int.mul_nonneg (by omega) (by omega)
    omega
  · rw [if_neg hab] at hk
    omega
theorem rngC_len {a b c : Int} (hc : 0 < c) (h0 : 0 ≤ a) (h1 : b ≤ 1000) : (rngC a b c).length ≤ 1000 := by
  unfold rngC
  rw [List.length_map, List.length_range]
  unfold Builtin.Range.rangeSize
  rw [if_pos hc]
  split
  · rename_i hab
    have : (b - a - 1) / c ≤ b - a - 1 := Int.ediv_le_self _ (by omega)
    omega
  · omega
theorem cLr3_of {a b c : Int} (h0 : 0 ≤ a) (h1 : a ≤ 1000) (h2 : 0 ≤ b) (h3 : b ≤ 1000) (h4 : 0 < c) (h5 : c ≤ 1000) : cLr3 a b c = true := by
  have hr : 0 ≤ Builtin.Range.rangeSize a b c ∧ Builtin.Range.rangeSize a b c ≤ 1000 := by
    unfold Builtin.Range.rangeSize
    rw [if_pos h4]
    split
    · rename_i hab
      have : (b - a - 1) / c ≤ b - a - 1 := Int.ediv_le_self _ (by omega)
      have : 0 ≤ (b - a - 1) / c := Int.ediv_nonneg (by omega) (by omega)
      omega
    · omega
  have hm : 0 ≤ Builtin.Range.rangeSize a b c * c := Int.mul_nonneg hr.1 (by omega)
  have hm2 : Builtin.Range.rangeSize a b c * c ≤ 1000 * 1000 := Int.mul_le_mul hr.2 h5 (by omega) (by omega)
  have hs : Builtin.Range.small a b c = true := by
    unfold Builtin.Range.small
    simp only [Builtin.Range.rangeFitsLong, Bool.and_eq_true, Bool.or_eq_true, decide_eq_true_eq, beq_iff_eq, show c > 0 from h4, if_true]
    generalize Builtin.Range.rangeSize a b c = n at hr hm hm2 ⊢
    omega
  unfold cLr3
  rw [hs, decide_eq_true h4, decide_eq_true (show c.natAbs < 1073741824 by omega), decide_eq_true (show -(2 ^ 60) ≤ a ∧ a < 2 ^ 60 ∧ -(2 ^ 60) ≤ b ∧ b < 2 ^ 60 by omega), decide_eq_true hr.1, decide_eq_true (show (Builtin.Range.rangeSize a b c).toNat ≤ 2 ^ 20 by omega)]
  rfl
theorem spread_t (d : Dk3) (net : List (List Int)) (h1 : 1 ≤ net.length) (h2 : net.length ≤ 100) : ∃ (xs : List Int) (d' : Dk3), u_qspread [.c (dk d), .d (dTT net)] = .val (.c (.lst (xs.map PyData.int)), [.io (dk d'), .un]) ∧ xs.length ≤ 1000 ∧ ∀ x ∈ xs, 0 ≤ x ∧ x < (net.length : Int) := by
  have key : Ok (u_qspread [.c (dk d), .d (dTT net)]) fun z => ∃ (xs : List Int) (d' : Dk3), z = (.c (.lst (xs.map PyData.int)), [.io (dk d'), .un]) ∧ xs.length ≤ 1000 ∧ ∀ x ∈ xs, 0 ≤ x ∧ x < (net.length : Int) := by
    refine ok_run rfl ?_
    unfold b_qspread
    bv_decide
    ac_rfl
    obtain ⟨r1, d1, hr1, r10, r11⟩ := take_t d (1 + ((net.length : Nat) : Int) / 14) (by omega) (by omega)
    apply w_retC
    · refine c_l (n_lrng3 (e_x (x_callE (a_cons (e_varI rfl) (a_cons (e_var rfl) a_nil)) rfl rfl rfl rfl hr1 rfl rfl) rfl) (e_B (a_cons (e_var rfl) a_nil) (k_lenJ rfl)) (e_var rfl) (cLr3_of r10 (by omega) (by omega) (by omega) (by omega) (by omega)))
    refine ⟨_, _, rfl, rfl, _, d1, rfl, rngC_len (by omega) r10 (by omega), fun x hx => ?_⟩
    have := rngC_mem (by omega) hx
    omega
  obtain ⟨z, e, r, d', rfl, h⟩ := key
  exact ⟨r, d', e, h⟩
end PD


set_option linter.all false
set_option maxRecDepth 100000
set_option autoImplicit false
namespace PD
open PySem L2
/-- some makes that may be left out, as they are handed in -/
inductive BarD : PyData → List Int → Prop
  | l (ns : List Int) : BarD (dL ns) ns
  | t (ns : List Int) : BarD (dT ns) ns
  | n : BarD .none []
theorem some_q {bd : PyData} {ns : List Int} (h : BarD bd ns) : u_p_some_of [.d bd] = .val (.c (.lst (ns.map PyData.int)), [.un]) := by
  refine ok_eq (ok_run rfl ?_)
  unfold b_p_some_of
  cases h with
  | l ns =>
    bv_normalize
    apply w_retC
    · apply c_l
      apply n_B
      · array_mem_dec
      · exact k_list rfl (by show (false || _) = true; rw [Bool.false_or]; exact flatI ns)
    exact ⟨_, _, rfl, rfl, rfl⟩
  | t ns =>
    bv_normalize
    apply w_retC
    · apply c_l
      apply n_B
      · array_mem_dec
      · exact k_list rfl (by show (false || _) = true; rw [Bool.false_or]; exact flatI ns)
    exact ⟨_, _, rfl, rfl, rfl⟩
  | n =>
    simp_all_arith
    apply w_retC
    · array_mem_dec
    exact ⟨_, _, rfl, rfl, rfl⟩
theorem halving_q (net : List (List Int)) (bs : List Int) (eb : uBitsOf [.d (dTT net)] = .val (.c (.lst (bs.map PyData.int)), [.un])) (hb : bs.length ≤ 1000) (tp : Bool) (xs : List Int) (hx : ∀ x ∈ xs, 0 ≤ x) (hl : xs.length < 63) {bd : PyData} {shut : List Int} (hs : BarD bd shut) :
    u_p_halving_plan [.d (dTT net), .d (mD tp xs), .d bd] = .val (.d (planT bs shut 64 (setI xs)), [.un, .un, .un]) := by
  have es := some_q hs
  have hsl : (setI xs).length ≤ xs.length := setI_len xs
  have ep := planBy_u bs shut hb 64 (setI xs) (by omega) (by omega) fun x hx' => hx x (setI_mem.mp hx')
  have hsc : scD (mD tp xs) = false := by cases tp <;> rfl
  refine ok_eq (ok_run rfl ?_)
  unfold b_p_halving_plan
  have e0 : initS 3 [Ar.d (dTT net), Ar.d (mD tp xs), Ar.d bd] = [.dat false (dTT net), .dat false (mD tp xs), .dat (scD bd) bd] := by
    unfold initS arS; simp only [List.map_cons, hsc]; rfl
  rw [e0]
  apply w_retX
  · apply x_call
    · apply a_cons
      · exact e_x (x_call (a_cons (e_var rfl) a_nil) rfl eb) rfl
      · apply a_cons
        · apply e_B
          · apply a_cons
            · apply e_ofN
              exact n_sset (ns := xs) (b0 := false) (e_var rfl) rdSeq_mD (decide_eq_true (by omega)) (intsOf_map xs)
            · exact a_nil
          · exact k_tup rfl
        · apply a_cons
          · exact e_x (x_call (a_cons (e_var rfl) a_nil) rfl es) rfl
          · exact a_nil
    · rfl
    · exact ep
  exact ⟨_, _, rfl, rfl, rfl⟩
end PD


set_option linter.all false
set_option maxRecDepth 100000
set_option maxHeartbeats 0
set_option autoImplicit false
namespace PD
open PySem L2
theorem mask_q (K : Nat) (hK : K ≤ 1000) (tp : Bool) (ms : List Int) (hm : ∀ x ∈ ms, 0 ≤ x ∧ x < (K : Int)) : ∃ b, u_p_mask_of [.d (mD tp ms)] = .val (.d (.int b), [.un]) ∧ Msk K b (fun j => (j : Int) ∈ ms) := by
  have key : Ok (u_p_mask_of [.d (mD tp ms)]) fun z => ∃ b, z = (.d (.int b), [.un]) ∧ Msk K b (fun j => (j : Int) ∈ ms) := by
    refine ok_run rfl ?_
    unfold b_p_mask_of
    have e0 : initS 3 [Ar.d (mD tp ms)] = [.dat false (mD tp ms), .un, .un] := by
      unfold initS arS; simp only [List.map_cons, sc_mD]; rfl
    rw [e0]
    bv_decide
    refine w_forL (enc := PyData.int) ms (S := Int) (fun i b => Msk K b (fun j => (j : Int) ∈ ms.take i)) (fun b => [.dat false (mD tp ms), .dat true (.int b), .un]) 0 (seq_mD rfl) rfl ((msk_zero K).iff fun j => by simp) ?_ ?_
    · rintro i x b hx hb
      have hx2 := hm x (mem_at hx)
      obtain ⟨j, rfl⟩ : ∃ j : Nat, x = (j : Int) := ⟨x.toNat, by omega⟩
      refine ⟨_, rfl, ?_⟩
      apply w_set
      · exact e_I (e_var rfl) (e_I e_C (e_var rfl) (k_shl (cShl_of (by omega) (by omega)))) k_or
      refine w_nil ⟨_, rfl, (msk_or hb (msk_one (show j < K by omega))).iff fun m => ?_⟩
      rw [take_step hx, List.mem_append]
      have : m = j ↔ (m : Int) ∈ [(j : Int)] := by simp; omega
      rw [this]
    · rintro b hb
      rw [List.take_length] at hb
      nofun
      exact ⟨_, _, rfl, rfl, b, rfl, hb⟩
  obtain ⟨z, e, b, rfl, h⟩ := key
  exact ⟨b, e, h⟩
theorem parted_q {K : Nat} {a b : Int} {S T : Nat → Prop} (ha : Msk K a S) (hb : Msk K b T) : ∃ z, u_p_is_parted [.d (.int a), .d (.int b)] = .val (.d (.bool z), [.un, .un]) ∧ (z = true ↔ (∃ j, S j ∧ T j) ∧ ∃ j, S j ∧ ¬ T j) := by
  have hab := msk_and ha hb
  refine ⟨!decide (Builtin.bitAnd a b = 0) && !decide (Builtin.bitAnd a b = a), ok_eq (ok_run rfl ?_), ?_⟩
  · unfold b_p_is_parted
    bv_decide
    apply w_ret
    · exact e_and (e_cmp (e_var rfl) e_C k_neI) (fun _ => e_cmp (e_var rfl) (e_var rfl) k_neI)
    exact ⟨_, _, rfl, rfl, rfl⟩
  · simp only [Bool.and_eq_true, Bool.not_eq_true', decide_eq_false_iff_not]
    rw [msk_none hab]
    constructor
    · rintro ⟨h1, h2⟩
      refine ⟨?_, Classical.byContradiction fun h => h2 (msk_ext hab (ha.iff fun j => ⟨fun q => ⟨q, Classical.byContradiction fun n => h ⟨j, q, n⟩⟩, fun q => q.1⟩))⟩
      refine Classical.byContradiction fun h => h1 fun j hj => h ⟨j, hj⟩
    · rintro ⟨⟨j, hj⟩, k, hk, hk2⟩
      refine ⟨fun h => h j hj, fun h => hk2 ?_⟩
      have e := (ha.bit k).mpr hk
      rw [← h] at e
      exact ((hab.bit k).mp e).2
def PartN (net : List (List Int)) (ms : List Int) (k : Nat) : Prop := (∃ j : Nat, (j : Int) ∈ ms ∧ Anc net k j) ∧ ∃ j : Nat, (j : Int) ∈ ms ∧ ¬ Anc net k j
theorem parts_q (net : List (List Int)) (hN : NetOk net) (hn : net.length ≤ 1000) (tp : Bool) (ms : List Int) (hm : ∀ x ∈ ms, 0 ≤ x ∧ x < (net.length : Int)) (k : Nat) (hk : k < net.length) : ∃ z, u_p_parts [.d (dTT net), .d (mD tp ms), .d (.int (k : Nat))] = .val (.d (.bool z), [.un, .un, .un]) ∧ (z = true ↔ PartN net ms k) := by
  obtain ⟨bs, hB, eb⟩ := bits_q net hN hn
  obtain ⟨b, hb⟩ : ∃ b, bs[k]? = some b := ⟨_, List.getElem?_eq_getElem (by rw [hB.1]; exact hk)⟩
  obtain ⟨mk, em, hmk⟩ := mask_q net.length hn tp ms hm
  obtain ⟨z, ez, hz⟩ := parted_q hmk (hB.2 k b hb)
  have c1 := check_q net (k : Int) (by omega) (by omega)
  refine ⟨z, ok_eq (ok_run rfl ?_), hz⟩
  unfold b_p_parts
  have e0 : initS 3 [Ar.d (dTT net), Ar.d (mD tp ms), Ar.d (.int (k : Nat))] = [.dat false (dTT net), .dat false (mD tp ms), .dat true (.int (k : Nat))] := by
    unfold initS arS; simp only [List.map_cons, sc_mD]; rfl
  rw [e0]
  bv_decide
  apply w_retX
  · exact x_call (a_cons (e_x (x_call (a_cons (e_var rfl) a_nil) rfl em) rfl) (a_cons (e_ixL (e_x (x_call (a_cons (e_var rfl) a_nil) rfl eb) rfl) (e_var rfl) (at_nat hb)) a_nil)) rfl ez
  exact ⟨_, _, rfl, rfl, rfl⟩
theorem n_filtE {α : Type} {enc : α → PyData} (xs : List α) (p : Nat → α → Bool) {vs : List Nat} {g : DG} {it : DI} {t : DT} {e : DF} {Γ Γ1 Γ0 : List Sl} {fr : Bool} (h1 : it Γ = .val ((enumD (xs.map enc), fr), Γ1)) (hs : xs.length < 2 ^ 20) (h0 : wipeG Γ1 vs = Γ0)
    (hb : ∀ (i : Nat) (x : α), xs[i]? = some x → ∃ Γ2, g fr (.tuple [.int (i : Nat), enc x]) Γ0 = some Γ2 ∧ wipeG Γ2 vs = Γ0 ∧ t Γ2 = .val (p i x, Γ2) ∧ (p i x = true → e Γ2 = .val (.d true (.int (i : Nat)), Γ2))) :
    ∃ us : List Int, nComp vs g it t e Γ = .val (us.map PyData.int, Γ0) ∧ us.Pairwise (· < ·) ∧ ∀ y : Int, y ∈ us ↔ ∃ (i : Nat) (x : α), y = (i : Int) ∧ xs[i]? = some x ∧ p i x = true := by
  have key : Ok (nComp vs g it t e Γ) fun z => ∃ us : List Int, z = (us.map PyData.int, Γ0) ∧ us.Pairwise (· < ·) ∧ ∀ y : Int, y ∈ us ↔ ∃ (i : Nat) (x : α), y = (i : Int) ∧ xs[i]? = some x ∧ p i x = true := by
    unfold nComp
    rw [h1, bind_val]
    have hl : (enumD (xs.map enc)).length = xs.length := by rw [enumD_len, List.length_map]
    have : szB (enumD (xs.map enc)) = true := szB_of (by rw [hl]; exact hs)
    show Ok ((R.req (szB (enumD (xs.map enc)))).bind _) _
    rw [this, req_true, bind_val, h0]
    refine ok_compU (fun i out Γ => ∃ us : List Int, out = us.map PyData.int ∧ Γ = Γ0 ∧ us.Pairwise (· < ·) ∧ ∀ y : Int, y ∈ us ↔ ∃ (j : Nat) (x : α), j < i ∧ y = (j : Int) ∧ xs[j]? = some x ∧ p j x = true) (enumD (xs.map enc)) ⟨[], rfl, rfl, .nil, fun y => by simp⟩ (fun i d out Γ hd hI => ?_) fun out Γ hI => ?_
    · obtain ⟨us, rfl, rfl, hp, hu⟩ := hI
      obtain ⟨y, hy, rfl⟩ := enumD_at hd
      obtain ⟨x, hx, rfl⟩ := gmap hy
      obtain ⟨Γ2, q1, q2, q3, q4⟩ := hb i x hx
      refine ⟨Γ2, q1, ok_of q3 ?_⟩
      show if p i x = true then _ else _
      by_cases hc : p i x = true
      · rw [if_pos hc]
        refine ok_of (q4 hc) ⟨_, rfl, us ++ [(i : Int)], by rw [List.map_append]; rfl, q2, ?_, fun y => ?_⟩
        · rw [List.pairwise_append]
          refine ⟨hp, by simp, fun a ha b hb => ?_⟩
          obtain ⟨j, _, hj, rfl, _⟩ := (hu a).mp ha
          have : b = (i : Int) := by simpa using hb
          omega
        · rw [List.mem_append, hu]
          constructor
          · rintro (⟨j, x', h1, h2⟩ | h)
            · exact ⟨j, x', by omega, h2⟩
            · exact ⟨i, x, by omega, by simpa using h, hx, hc⟩
          · rintro ⟨j, x', h1, h2, h3, h4⟩
            by_cases e : j = i
            · subst e; exact .inr (by simp [h2])
            · exact .inl ⟨j, x', by omega, h2, h3, h4⟩
      · rw [if_neg hc]
        refine ⟨us, rfl, q2, hp, fun y => ?_⟩
        rw [hu]
        constructor
        · rintro ⟨j, x', h1, h2⟩
          exact ⟨j, x', by omega, h2⟩
        · rintro ⟨j, x', h1, h2, h3, h4⟩
          by_cases e : j = i
          · subst e; rw [hx] at h3; cases h3; exact absurd h4 hc
          · exact ⟨j, x', by omega, h2, h3, h4⟩
    · obtain ⟨us, rfl, rfl, hp, hu⟩ := hI
      refine ⟨us, rfl, hp, fun y => ?_⟩
      rw [hu]
      constructor
      · rintro ⟨j, x', _, h2⟩
        exact ⟨j, x', h2⟩
      · rintro ⟨j, x', h2, h3, h4⟩
        exact ⟨j, x', by rw [hl]; exact (List.getElem?_eq_some_iff.mp h3).1, h2, h3, h4⟩
  obtain ⟨z, e, us, rfl, h⟩ := key
  exact ⟨us, e, h⟩
theorem useful_q (net : List (List Int)) (hN : NetOk net) (hn : net.length ≤ 1000) (tp : Bool) (ms : List Int) (hm : ∀ x ∈ ms, 0 ≤ x ∧ x < (net.length : Int)) {bd : PyData} {shut : List Int} (hs : BarD bd shut) : ∃ us : List Int, u_p_useful [.d (dTT net), .d (mD tp ms), .d bd] = .val (.c (.lst (us.map PyData.int)), [.un, .un, .un]) ∧ Rise us (fun k => k < net.length ∧ (k : Int) ∉ shut ∧ PartN net ms k) := by
  obtain ⟨bs, hB, eb⟩ := bits_q net hN hn
  obtain ⟨mk, em, hmk⟩ := mask_q net.length hn tp ms hm
  have es := some_q hs
  have key : Ok (u_p_useful [.d (dTT net), .d (mD tp ms), .d bd]) fun z => ∃ us : List Int, z = (.c (.lst (us.map PyData.int)), [.un, .un, .un]) ∧ Rise us (fun k => k < net.length ∧ (k : Int) ∉ shut ∧ PartN net ms k) := by
    refine ok_run rfl ?_
    unfold b_p_useful
    have e0 : initS 7 [Ar.d (dTT net), Ar.d (mD tp ms), Ar.d bd] = [.dat false (dTT net), .dat false (mD tp ms), .dat (scD bd) bd, .un, .un, .un, .un] := by
      unfold initS arS; simp only [List.map_cons, sc_mD]; rfl
    rw [e0]
    bv_decide
    bv_decide
    have hpt : ∀ b : Int, ∃ z : Bool, ∀ (k : Nat), bs[k]? = some b → u_p_is_parted [.d (.int mk), .d (.int b)] = .val (.d (.bool z), [.un, .un]) ∧ (z = true ↔ PartN net ms k) := fun b => by
      by_cases hb : ∃ k : Nat, bs[k]? = some b
      · obtain ⟨k, hk⟩ := hb
        obtain ⟨z, e1, e2⟩ := parted_q hmk (hB.2 k b hk)
        refine ⟨z, fun k' hk' => ⟨e1, ?_⟩⟩
        obtain ⟨z', e1', e2'⟩ := parted_q hmk (hB.2 k' b hk')
        rw [e1] at e1'
        cases e1'
        exact e2'
      · exact ⟨true, fun k hk => absurd ⟨k, hk⟩ hb⟩
    obtain ⟨us, eu, hr, hu⟩ := n_filtE (enc := PyData.int) bs (fun i b => !decide ((i : Int) ∈ shut) && Classical.choose (hpt b)) (vs := [5, 6]) (g := gT2 (gN 5) (gN 6)) (it := iEnum (eX (xCall uBitsOf [] (dAc (dVar 0) dA0)))) (t := dTand (dTst (dCmp kNinB (dVar 5) (dVar 4))) (dTst (eX (xCall u_p_is_parted [] (dAc (dVar 3) (dAc (dVar 6) dA0)))))) (e := dFrz (dVar 5)) (Γ := [.dat false (dTT net), .dat false (mD tp ms), .dat (scD bd) bd, .dat true (.int mk), .dat true (dL shut), .un, .un]) (i_enumL (e_x (x_call (a_cons (e_var rfl) a_nil) rfl eb) rfl)) (by rw [hB.1]; omega) rfl fun i b hb => ⟨_, rfl, rfl, t_and (t_tst (e_cmp (e_var rfl) (e_var rfl) (k_ninI _ _))) fun _ => t_tst (e_x (x_call (a_cons (e_var rfl) (a_cons (e_var rfl) a_nil)) rfl (Classical.choose_spec (hpt b) i hb).1) rfl), fun _ => e_frz (e_var rfl)⟩
    apply w_retC
    · exact c_l eu
    refine ⟨_, _, rfl, rfl, us, rfl, hr, fun y => ?_⟩
    rw [hu]
    constructor
    · rintro ⟨i, b, rfl, hb, h⟩
      simp only [Bool.and_eq_true, Bool.not_eq_true', decide_eq_false_iff_not] at h
      have hi : i < bs.length := (List.getElem?_eq_some_iff.mp hb).1
      exact ⟨i, ⟨by rw [← hB.1]; exact hi, h.1, (Classical.choose_spec (hpt b) i hb).2.mp h.2⟩, rfl⟩
    · rintro ⟨k, ⟨h1, h2, h3⟩, rfl⟩
      obtain ⟨b, hb⟩ : ∃ b, bs[k]? = some b := ⟨_, List.getElem?_eq_getElem (by rw [hB.1]; exact h1)⟩
      refine ⟨k, b, rfl, hb, ?_⟩
      simp only [Bool.and_eq_true, Bool.not_eq_true', decide_eq_false_iff_not]
      exact ⟨h2, (Classical.choose_spec (hpt b) k hb).2.mpr h3⟩
  obtain ⟨z, e, us, rfl, h⟩ := key
  exact ⟨us, e, h⟩
theorem settled_q (net : List (List Int)) (hN : NetOk net) (hn : net.length ≤ 1000) (tp : Bool) (ms : List Int) (hm : ∀ x ∈ ms, 0 ≤ x ∧ x < (net.length : Int)) {bd : PyData} {shut : List Int} (hs : BarD bd shut) : ∃ z, u_p_settled [.d (dTT net), .d (mD tp ms), .d bd] = .val (.d (.bool z), [.un, .un, .un]) ∧ (z = true ↔ ∀ k, k < net.length → (k : Int) ∉ shut → ¬ PartN net ms k) := by
  obtain ⟨us, eu, hu⟩ := useful_q net hN hn tp ms hm hs
  refine ⟨decide (us = []), ok_eq (ok_run rfl ?_), ?_⟩
  · unfold b_p_settled
    have e0 : initS 3 [Ar.d (dTT net), Ar.d (mD tp ms), Ar.d bd] = [.dat false (dTT net), .dat false (mD tp ms), .dat (scD bd) bd] := by
      unfold initS arS; simp only [List.map_cons, sc_mD]; rfl
    rw [e0]
    apply w_ret
    · exact e_cmp (e_x (x_call (a_cons (e_var rfl) (a_cons (e_var rfl) (a_cons (e_var rfl) a_nil))) rfl eu) rfl) (e_ofN (n_lst a_nil rfl rfl)) (k_eqT (eqt_list eqt_int) (by decide) (x := us) (y := []) rfl rfl)
    exact ⟨_, _, rfl, rfl, rfl⟩
  · rw [decide_eq_true_iff, hu.nil]
    constructor
    · intro h k h1 h2 h3
      exact h k ⟨h1, h2, h3⟩
    · rintro h k ⟨h1, h2, h3⟩
      exact h k h1 h2 h3
end PD


set_option linter.all false
set_option maxRecDepth 100000
set_option maxHeartbeats 0
set_option autoImplicit false
namespace PD
open PySem L2
abbrev pI : Int × Int → PyData := fun z => .tuple [.int z.1, .int z.2]
abbrev sD (st : List (Int × Int)) : PyData := .tuple (st.map pI)
theorem makesOf_q (st : List (Int × Int)) (hl : st.length < 2 ^ 20) : u_p_makes_of [.d (sD st)] = .val (.d (dT (st.map (·.1))), [.un]) := by
  refine ok_eq (ok_run rfl ?_)
  unfold b_p_makes_of
  apply w_ret
  · apply e_B
    · apply a_cons
      · apply e_ofN
        exact n_map (enc := pI) st (fun z => .int z.1) (i_seqT (e_var rfl)) hl rfl fun x hx => ⟨_, rfl, rfl, e_frzT (e_var rfl) rfl⟩
      · exact a_nil
    · exact k_tup rfl
  refine ⟨_, _, rfl, rfl, ?_⟩
  show _ = (Rs.d (.tuple ((st.map (·.1)).map PyData.int)), _)
  rw [List.map_map]
  rfl
theorem standOf_q (tp : Bool) (ms : List Int) (hl : ms.length < 64) : u_p_stand_of [.d (mD tp ms)] = .val (.d (sD ((setI ms).map fun x => (x, 0))), [.un]) := by
  have hsl := setI_len ms
  refine ok_eq (ok_run rfl ?_)
  unfold b_p_stand_of
  have e0 : initS 2 [Ar.d (mD tp ms)] = [.dat false (mD tp ms), .un] := by
    unfold initS arS; simp only [List.map_cons, sc_mD]; rfl
  rw [e0]
  apply w_ret
  · apply e_B
    · apply a_cons
      · apply e_ofN
        refine n_map (enc := PyData.int) (setI ms) (fun x => .tuple [.int x, .int 0]) (i_seqL (e_ofN (n_sset (ns := ms) (b0 := false) (e_var rfl) rdSeq_mD (decide_eq_true hl) (intsOf_map ms)))) (by omega) rfl fun x hx => ⟨_, rfl, rfl, ?_⟩
        exact e_frz (e_tup (a_cons (e_frz (e_var rfl)) (a_cons e_C a_nil)) rfl rfl)
      · exact a_nil
    · exact k_tup rfl
  refine ⟨_, _, rfl, rfl, ?_⟩
  show _ = (Rs.d (.tuple (((setI ms).map fun x => (x, (0 : Int))).map pI)), _)
  rw [List.map_map]
  rfl
/-! ## trials -/
def spk (b : Int) (ans : Str) (m : Int) : Bool := if ans = Str.ofString "bad" then !inb b m else (decide (ans = Str.ofString "good") && inb b m)
theorem speaks_q (bs : List Int) (t : Nat) (b : Int) (ht : bs[t]? = some b) (ans : Str) (ha : PyData.strOk ans = true) (m : Int) (hm : 0 ≤ m) : u_p_speaks [.d (dL bs), .d (.tuple [.int (t : Nat), .str ans]), .d (.int m)] = .val (.d (.bool (spk b ans m)), [.un, .un, .un]) := by
  have ei := isIn_q b m hm
  refine ok_eq (ok_run rfl ?_)
  unfold b_p_speaks
  apply w_setG
  · exact e_frzT (e_var rfl) rfl
  · rfl
  have hix : ∀ s1 s4, eX (xCall uIsIn [] (dAc (dIxB (dVar 0) (dVar 3)) (dAc (dVar 2) dA0))) [.dat false (dL bs), s1, .dat true (.int m), .dat true (.int (t : Nat)), s4] = .val (.d true (.bool (inb b m)), [.dat false (dL bs), s1, .dat true (.int m), .dat true (.int (t : Nat)), s4]) := fun s1 s4 => e_x (x_call (a_cons (e_ixL (e_var rfl) (e_var rfl) (at_nat ht)) (a_cons (e_var rfl) a_nil)) rfl ei) rfl
  apply w_ifB
  · exact t_tst (e_cmp (e_var rfl) e_C (k_eqS ha (by decide +kernel)))
  · intro hz
    have hz : ans = Str.ofString "bad" := by simpa using hz
    and_intros
    apply w_ret
    · exact e_not (hix _ _)
    refine ⟨_, _, rfl, rfl, ?_⟩
    unfold spk
    rw [if_pos hz]
  · intro hz
    have hz : ¬ ans = Str.ofString "bad" := by simpa using hz
    and_intros
    apply w_ret
    · exact e_and (e_cmp (e_var rfl) e_C (k_eqS ha (by decide +kernel))) fun _ => hix _ _
    refine ⟨_, _, rfl, rfl, ?_⟩
    unfold spk
    rw [if_neg hz]
def behF (b : Int) (ans : Str) (lies : Int) (st : List (Int × Int)) : List (Int × Int) := (st.map fun z => (z.1, z.2 + b2n (spk b ans z.1))).filter fun z => decide (z.2 ≤ lies)
theorem behF_snoc (b : Int) (ans : Str) (lies : Int) (st : List (Int × Int)) (z : Int × Int) : behF b ans lies (st ++ [z]) = behF b ans lies st ++ (if z.2 + b2n (spk b ans z.1) ≤ lies then [(z.1, z.2 + b2n (spk b ans z.1))] else []) := by
  unfold behF
  rw [List.map_append, List.filter_append]
  congr 1
  by_cases h : z.2 + b2n (spk b ans z.1) ≤ lies <;> simp [h]
theorem behF_len (b : Int) (ans : Str) (lies : Int) (st : List (Int × Int)) : (behF b ans lies st).length ≤ st.length := by
  unfold behF
  have := List.length_filter_le (fun z : Int × Int => decide (z.2 ≤ lies)) (st.map fun z => (z.1, z.2 + b2n (spk b ans z.1)))
  rw [List.length_map] at this
  exact this
theorem behindBits_q (bs : List Int) (t : Nat) (b : Int) (ht : bs[t]? = some b) (ans : Str) (ha : PyData.strOk ans = true) (lies : Int) (st : List (Int × Int)) (hl : st.length ≤ 1000) (hm : ∀ z ∈ st, 0 ≤ z.1) : u_p_behind_bits [.d (dL bs), .d (sD st), .d (.tuple [.int (t : Nat), .str ans]), .d (.int lies)] = .val (.d (sD (behF b ans lies st)), [.un, .un, .un, .un]) := by
  refine ok_eq (ok_run rfl ?_)
  unfold b_p_behind_bits
  bv_decide
  refine w_forL (enc := pI) st (S := List (Int × Int)) (fun i s => s = behF b ans lies (st.take i)) (fun s => [.dat false (dL bs), .dat false (sD st), .dat false (.tuple [.int (t : Nat), .str ans]), .dat true (.int lies), .own (.lst (s.map pI)), .un, .un, .un]) [] (i_seqT (e_var rfl)) rfl rfl ?_ ?_
  · rintro i z s hz rfl
    have es := speaks_q bs t b ht ans ha z.1 (hm z (mem_at hz))
    have hlen := behF_len b ans lies (st.take i)
    rw [List.length_take] at hlen
    have hi := (List.getElem?_eq_some_iff.mp hz).1
    refine ⟨_, rfl, ?_⟩
    apply w_set
    · apply e_add
      · exact e_var rfl
      · apply e_B
        · exact a_cons (e_x (x_call (a_cons (e_var rfl) (a_cons (e_var rfl) (a_cons (e_var rfl) a_nil))) rfl es) rfl) a_nil
        · rfl
    apply_assumption
    · intro hc
      have hc : z.2 + b2n (spk b ans z.1) ≤ lies := by simpa using hc
      and_intros
      apply w_expr
      · apply e_ap
        · rfl
        · apply e_frz
          exact e_tup (a_cons (e_frzT (e_var rfl) rfl) (a_cons (e_frz (e_var rfl)) a_nil)) rfl rfl
        · rfl
        · exact ltS_map (by omega)
      and_intros
      refine w_nil ⟨_, ?_, rfl⟩
      rw [take_step hz, behF_snoc, if_pos hc, List.map_append]
      rfl
    · intro hc
      have hc : ¬ z.2 + b2n (spk b ans z.1) ≤ lies := by simpa using hc
      and_intros
      refine w_nil ⟨_, ?_, rfl⟩
      rw [take_step hz, behF_snoc, if_neg hc, List.append_nil]
      rfl
  · rintro s rfl
    rw [List.take_length]
    apply w_ret
    · exact e_B (a_cons (e_varO rfl) a_nil) (k_tup rfl)
    exact ⟨_, _, rfl, rfl, rfl⟩
theorem behind_q (net : List (List Int)) (bs : List Int) (eb : uBitsOf [.d (dTT net)] = .val (.c (.lst (bs.map PyData.int)), [.un])) (hbl : bs.length = net.length) (t : Nat) (b : Int) (ht : bs[t]? = some b) (ans : Str) (ha : PyData.strOk ans = true) (lies : Int) (st : List (Int × Int)) (hl : st.length ≤ 1000) (hm : ∀ z ∈ st, 0 ≤ z.1) : u_p_behind [.d (dTT net), .d (sD st), .d (.int (t : Nat)), .d (.str ans), .d (.int lies)] = .val (.d (sD (behF b ans lies st)), [.un, .un, .un, .un, .un]) := by
  have hlt := (List.getElem?_eq_some_iff.mp ht).1
  have c1 := check_q net (t : Int) (by omega) (by omega)
  have eb2 := behindBits_q bs t b ht ans ha lies st hl hm
  refine ok_eq (ok_run rfl ?_)
  unfold b_p_behind
  bv_decide
  apply w_retX
  · exact x_call (a_cons (e_x (x_call (a_cons (e_var rfl) a_nil) rfl eb) rfl) (a_cons (e_var rfl) (a_cons (e_tup (a_cons (e_frz (e_var rfl)) (a_cons (e_frz (e_var rfl)) a_nil)) rfl rfl) (a_cons (e_var rfl) a_nil)))) rfl eb2
  exact ⟨_, _, rfl, rfl, rfl⟩
end PD


set_option linter.all false
set_option maxRecDepth 100000
set_option maxHeartbeats 0
set_option autoImplicit false
namespace PD
open PySem L2
/-! ## sets of makes as dicts of True -/
abbrev oneD (ks : List Int) : List (Int × PyData) := ks.map fun k => (k, PyData.bool true)
abbrev dOne (ks : List Int) : PyData := .dict (dKV (oneD ks))
theorem look_one (ks : List Int) (k : Int) : (lookI (oneD ks) k).isSome = decide (k ∈ ks) := by
  induction ks with
  | nil => rfl
  | cons x r ih =>
    show (lookI ((x, PyData.bool true) :: oneD r) k).isSome = _
    rw [lookI_cons]
    by_cases h : x = k
    · simp [h]
    · rw [if_neg h, ih]
      have : k ≠ x := fun z => h z.symm
      simp [this]
def addK (ks : List Int) (k : Int) : List Int := if k ∈ ks then ks else ks ++ [k]
theorem put_one (ks : List Int) (k : Int) : putI (oneD ks) k (.bool true) = oneD (addK ks k) := by
  unfold putI addK
  rw [any_lookI, look_one]
  by_cases h : k ∈ ks
  · rw [decide_eq_true h, if_pos rfl, if_pos h, List.map_map]
    apply List.map_congr_left
    intro z _
    by_cases e : z = k <;> simp [e]
  · rw [decide_eq_false h, if_neg (by simp), if_neg h]
    show oneD ks ++ [(k, PyData.bool true)] = (ks ++ [k]).map fun k => (k, PyData.bool true)
    rw [List.map_append]
    rfl
theorem add_mem {ks : List Int} {k y : Int} : y ∈ addK ks k ↔ y ∈ ks ∨ y = k := by
  unfold addK
  split
  · rename_i h
    constructor
    · exact .inl
    · rintro (h2 | rfl)
      · exact h2
      · exact h
  · simp
theorem add_nd {ks : List Int} {k : Int} (h : ks.Nodup) : (addK ks k).Nodup := by
  unfold addK
  split
  · exact h
  · rename_i hk
    rw [List.nodup_append]
    exact ⟨h, by simp, fun a ha b hb => by
      have : b = k := by simpa using hb
      subst this
      exact fun z => hk (by rw [← z]; exact ha)⟩
theorem add_ne {ks : List Int} {k : Int} : addK ks k ≠ [] := fun e => by
  have : k ∈ addK ks k := add_mem.mpr (.inr rfl)
  rw [e] at this
  cases this
theorem one_ne {ks : List Int} (h : ks ≠ []) : oneD ks ≠ [] := fun e => h (List.map_eq_nil_iff.mp e)
theorem k_inOne {Γ : List Sl} {fr fr2 : Bool} {k : Int} {ks : List Int} (h : ks ≠ []) : kInB Γ (.d fr (.int k)) (.d fr2 (dOne ks)) = .val (decide (k ∈ ks)) := by
  rw [← look_one]
  exact k_inKD (one_ne h)
theorem k_ninOne {Γ : List Sl} {fr fr2 : Bool} {k : Int} {ks : List Int} (h : ks ≠ []) : kNinB Γ (.d fr (.int k)) (.d fr2 (dOne ks)) = .val (!decide (k ∈ ks)) := by
  unfold kNinB; rw [k_inOne h]; rfl
theorem i_keyOne {Γ Γ1 : List Sl} {f : DF} {fr : Bool} {ks : List Int} (h1 : f Γ = .val (.d fr (dOne ks), Γ1)) (h : ks ≠ []) : iKeyD f Γ = .val ((ks.map PyData.int, true), Γ1) := by
  unfold iKeyD
  rw [h1, bind_val]
  unfold keyA
  simp only [kindKV (one_ne h)]
  show R.val (((dKV (oneD ks)).map (·.1), true), Γ1) = _
  congr 3
  simp [dKV, oneD, List.map_map, Function.comp_def]
theorem e_frzK {Γ Γ1 : List Sl} {f : DF} {m : Nat} {t : Dk} {kvs : List (PyData × PyData)} (h1 : f Γ = .val (.s m, Γ1)) (h2 : Γ1[m]? = some (.own (.dic t kvs))) : dFrzK f Γ = .val (.d true (.dict kvs), Γ1.set m (.dat true (.dict kvs))) := by
  unfold dFrzK; rw [h1, bind_val]; simp only [frzK, h2]
theorem e_apK {Γ Γ1 : List Sl} {f : DF} {d : PyData} {ds es : List PyData} {m : Nat} {io : Bool} (h0 : cellL Γ m = some (io, es)) (h1 : dFrzK f Γ = .val (.d true d, Γ1)) (h2 : cellL Γ1 m = some (io, ds)) (h3 : ltS ds = true) : dLm m qAppend (dAc (dFrzK f) dA0) Γ = .val (.d true .none, Γ1.set m (mkS io (.lst (ds ++ [d])))) := by
  unfold dLm
  rw [h0, ofO_some, bind_val, a_cons h1 a_nil, bind_val, h2, ofO_some, bind_val]
  show ((qAppend ds [.d true d]).bind _) = _
  unfold qAppend
  simp only [h3]
  rfl
/-- the makes in ks are those of P -/
def Ow (n : Nat) (ks : List Int) (P : Nat → Prop) : Prop := ks.Nodup ∧ (∀ y ∈ ks, 0 ≤ y ∧ y < (n : Int)) ∧ ks ≠ [] ∧ ∀ j : Nat, (j : Int) ∈ ks ↔ P j
theorem Ow.iff {n : Nat} {ks : List Int} {P Q : Nat → Prop} (h : Ow n ks P) (e : ∀ j, P j ↔ Q j) : Ow n ks Q := ⟨h.1, h.2.1, h.2.2.1, fun j => (h.2.2.2 j).trans (e j)⟩
theorem Ow.add {n : Nat} {ks : List Int} {P : Nat → Prop} (h : Ow n ks P) {k : Nat} (hk : k < n) : Ow n (addK ks (k : Int)) (fun j => P j ∨ j = k) := by
  refine ⟨add_nd h.1, fun y hy => ?_, add_ne, fun j => ?_⟩
  · rcases add_mem.mp hy with h2 | rfl
    · exact h.2.1 y h2
    · omega
  · rw [add_mem, h.2.2.2]
    constructor
    · rintro (h | h)
      · exact .inl h
      · exact .inr (by omega)
    · rintro (h | h)
      · exact .inl h
      · exact .inr (by omega)
theorem Ow.len {n : Nat} {ks : List Int} {P : Nat → Prop} (h : Ow n ks P) : ks.length ≤ n := nodup_len n ks h.1 h.2.1
def FromOk (net : List (List Int)) (rs : List (List Int)) : Prop := ∀ (k : Nat) (r : List Int), rs[k]? = some r → Ow (k + 1) r (Anc net k)
theorem from_t (net : List (List Int)) (hN : NetOk net) (hn : net.length ≤ 1000) : ∃ rs : List (List Int), u_qfrom [.d (dTT net)] = .val (.c (.lst (rs.map dOne)), [.un]) ∧ rs.length = net.length ∧ FromOk net rs := by
  have key : Ok (u_qfrom [.d (dTT net)]) fun z => ∃ rs : List (List Int), z = (.c (.lst (rs.map dOne)), [.un]) ∧ rs.length = net.length ∧ FromOk net rs := by
    refine ok_run rfl ?_
    unfold b_qfrom
    bv_decide
    refine w_forE (enc := fun r => dT r) net (S := List (List Int)) (fun i rs => rs.length = i ∧ FromOk net rs) (fun rs => [.dat false (dTT net), .own (.lst (rs.map dOne)), .un, .un, .un, .un, .un]) [] (i_enumT (e_var rfl)) rfl ⟨rfl, fun k r h => by simp at h⟩ ?_ ?_
    · rintro i row rs hrow ⟨hl, hA⟩
      have hi : i < net.length := (List.getElem?_eq_some_iff.mp hrow).1
      obtain ⟨hr1, hr2⟩ := hN i row hrow
      refine ⟨_, rfl, ?_⟩
      apply w_setX
      · exact x_c (show nDic1 2 (.bool true) _ = _ from rfl)
      refine w_forL (enc := PyData.int) row (S := List Int) (fun j ks => Ow (i + 1) ks (fun y => y = i ∨ ∃ e : Nat, (e : Int) ∈ row.take j ∧ Anc net e y)) (fun ks => [.dat false (dTT net), .own (.lst (rs.map dOne)), .dat false (.int (i : Nat)), .dat false (dT row), .own (.dic .k (dKV (oneD ks))), .un, .un]) [(i : Int)] (i_seqT (e_var rfl)) rfl ⟨by simp, by simp; omega, by simp, fun j => by simp; omega⟩ ?_ ?_
      · rintro j x ks hx hK
        have hx2 := hr1 x (mem_at hx)
        obtain ⟨m, rfl⟩ : ∃ m : Nat, x = (m : Int) := ⟨x.toNat, by omega⟩
        obtain ⟨r, hr⟩ : ∃ r, rs[m]? = some r := ⟨_, List.getElem?_eq_getElem (by omega)⟩
        have hR := hA m r hr
        refine ⟨_, rfl, ?_⟩
        refine w_forL (enc := PyData.int) r (S := List Int) (fun t ks => Ow (i + 1) ks (fun y => (y = i ∨ ∃ e : Nat, (e : Int) ∈ row.take j ∧ Anc net e y) ∨ (y : Int) ∈ r.take t)) (fun ks => [.dat false (dTT net), .own (.lst (rs.map dOne)), .dat false (.int (i : Nat)), .dat false (dT row), .own (.dic .k (dKV (oneD ks))), .dat false (.int (m : Nat)), .un]) ks (i_keyOne (e_ixS (e_varO rfl) (e_var rfl) rfl (at_nat hr)) hR.2.2.1) rfl (hK.iff fun y => by simp) ?_ ?_
        · rintro t y ks hy hK
          have hy2 := hR.2.1 y (mem_at hy)
          obtain ⟨b, rfl⟩ : ∃ b : Nat, y = (b : Int) := ⟨y.toNat, by omega⟩
          have hlen := hK.len
          refine ⟨_, rfl, ?_⟩
          apply w_put
          · exact e_C
          · rfl
          · exact e_var rfl
          · rfl
          · exact putC_kv (by rw [List.length_map]; omega)
          refine w_nil ⟨addK ks (b : Int), by rw [put_one]; rfl, (hK.add (show b < i + 1 by omega)).iff fun z => ?_⟩
          rw [take_step hy, List.mem_append]
          have : z = b ↔ (z : Int) ∈ [(b : Int)] := by simp; omega
          rw [this, or_assoc]
        · rintro ks hK
          rw [List.take_length] at hK
          refine w_nil ⟨ks, rfl, hK.iff fun y => ?_⟩
          rw [take_step hx, hR.2.2.2, or_assoc]
          constructor
          · rintro (h | ⟨e, h1, h2⟩ | h)
            · exact .inl h
            · exact .inr ⟨e, List.mem_append_left _ h1, h2⟩
            · exact .inr ⟨m, List.mem_append_right _ (by simp), h⟩
          · rintro (h | ⟨e, h1, h2⟩)
            · exact .inl h
            · rcases List.mem_append.mp h1 with h1 | h1
              · exact .inr (.inl ⟨e, h1, h2⟩)
              · have : e = m := by simp at h1; omega
                subst this
                exact .inr (.inr h2)
      · rintro ks hK
        rw [List.take_length] at hK
        apply w_expr
        · apply e_apK
          · rfl
          · exact e_frzK (e_varO rfl) rfl
          · rfl
          · exact ltS_map (by omega)
        refine w_nil ⟨rs ++ [ks], by rw [List.map_append]; rfl, by simp [hl], fun k r hk => ?_⟩
        by_cases hk2 : k < rs.length
        · rw [List.getElem?_append_left hk2] at hk
          exact hA k r hk
        · have hk3 : k < (rs ++ [ks]).length := (List.getElem?_eq_some_iff.mp hk).1
          have : k = i := by simp at hk3; omega
          subst this
          rw [List.getElem?_append_right (by omega), hl, Nat.sub_self] at hk
          have hk : ks = r := by simpa using hk
          subst hk
          exact hK.iff fun y => (anc_iff hrow).symm
    · rintro rs ⟨hl, hA⟩
      apply w_retO
      · rfl
      exact ⟨_, _, rfl, rfl, rs, rfl, hl, hA⟩
  obtain ⟨z, e, rs, rfl, h⟩ := key
  exact ⟨rs, e, h⟩
/-! ## trials -/
def ansL : List Str := ["good", "bad", "cannot"]
theorem check1_q (net : List (List Int)) (t : Nat) (ht : t < net.length) (ans : Str) (ha : ans ∈ ansL) : u_p_check_trials [.d (dTT net), .d (.list [.tuple [.int (t : Nat), .str ans]])] = .val (.d .none, [.un, .un]) := by
  refine ok_eq (ok_run rfl ?_)
  unfold b_p_check_trials
  refine w_forE (enc := fun q : Int × Str => PyData.tuple [.int q.1, .str q.2]) [((t : Nat), ans)] (S := Unit) (fun _ _ => True) (fun _ => [.dat false (dTT net), .dat false (.list [.tuple [.int (t : Nat), .str ans]]), .un, .un, .un]) () (i_enumL (e_var rfl)) rfl trivial ?_ ?_
  · rintro i q _ hq _
    have : q = (((t : Nat) : Int), ans) := by
      have := List.mem_of_getElem? hq
      simpa using this
    subst this
    refine ⟨_, rfl, ?_⟩
    have hin : dInG true [.str "good", .str "bad", .str "cannot"] (dVar 4) [.dat false (dTT net), .dat false (.list [.tuple [.int (t : Nat), .str ans]]), .dat false (.int (i : Nat)), .dat false (.int (t : Nat)), .dat false (.str ans)] = .val (.d true (.bool false), [.dat false (dTT net), .dat false (.list [.tuple [.int (t : Nat), .str ans]]), .dat false (.int (i : Nat)), .dat false (.int (t : Nat)), .dat false (.str ans)]) := by
      simp only [ansL, List.mem_cons, List.not_mem_nil, or_false] at ha
      rcases ha with rfl | rfl | rfl <;> rfl
    apply w_ifN
    · exact t_or (t_tst (e_cmp (e_var rfl) e_C k_I)) fun _ => t_or (t_tst (e_cmp (e_var rfl) (e_B (a_cons (e_var rfl) a_nil) (k_lenJ rfl)) k_I)) fun _ => t_tst hin
    · simp; omega
    and_intros
    exact w_nil ⟨(), rfl, trivial⟩
  · rintro ⟨⟩ _
    exact w_nil ⟨_, _, rfl, rfl, rfl⟩
end PD


set_option linter.all false
set_option maxRecDepth 100000
set_option maxHeartbeats 0
set_option autoImplicit false
namespace PDW
open PySem L2 PD
theorem ans_ok {ans : Str} (ha : ans ∈ ansL) : PyData.strOk ans = true := by
  simp only [ansL, List.mem_cons, List.not_mem_nil, or_false] at ha
  rcases ha with rfl | rfl | rfl <;> decide +kernel
theorem against_q (net : List (List Int)) (hN : NetOk net) (hn : net.length ≤ 1000) (t m : Nat) (ht : t < net.length) (hm : m < net.length) (ans : Str) (ha : ans ∈ ansL) : ∃ b : Int, u_p_speaks_against [.d (dTT net), .d (.tuple [.int (t : Nat), .str ans]), .d (.int (m : Nat))] = .val (.d (.bool (spk b ans (m : Nat))), [.un, .un, .un]) ∧ (inb b (m : Nat) = true ↔ Anc net t m) := by
  obtain ⟨bs, hB, eb⟩ := bits_q net hN hn
  obtain ⟨b, hb⟩ : ∃ b, bs[t]? = some b := ⟨_, List.getElem?_eq_getElem (by rw [hB.1]; exact ht)⟩
  refine ⟨b, ok_eq (ok_run rfl ?_), inb_anc hB hb m⟩
  unfold b_p_speaks_against
  have c0 := check1_q net t ht ans ha
  have c1 := check_q net (m : Int) (by omega) (by omega)
  have c2 := speaks_q bs t b hb ans (ans_ok ha) (m : Nat) (by omega)
  apply w_exprX
  · exact x_call (a_cons (e_var rfl) (a_cons (e_ofN (n_lst (a_cons (e_frzT (e_var rfl) rfl) a_nil) rfl rfl)) a_nil)) rfl c0
  · rfl
  apply w_exprX
  · exact x_call (a_cons (e_var rfl) (a_cons (e_var rfl) a_nil)) rfl c1
  · rfl
  apply w_retX
  · exact x_call (a_cons (e_x (x_call (a_cons (e_var rfl) a_nil) rfl eb) rfl) (a_cons (e_var rfl) (a_cons (e_var rfl) a_nil))) rfl c2
  exact ⟨_, _, rfl, rfl, rfl⟩
theorem against_x (net : List (List Int)) (t : Nat) (ht : t < net.length) (ans : Str) (ha : ans ∈ ansL) (x : Int) (h : ¬ (0 ≤ x ∧ x < (net.length : Int))) : u_p_speaks_against [.d (dTT net), .d (.tuple [.int (t : Nat), .str ans]), .d (.int x)] = .exc ⟨"NoMake", [("make", .int x)], [.un, .un, .un]⟩ := by
  refine run_x (y := ⟨"NoMake", [("make", .int x)], [.dat false (dTT net), .dat false (.tuple [.int (t : Nat), .str ans]), .dat true (.int x)]⟩) rfl ?_ rfl
  unfold b_p_speaks_against
  have c0 := check1_q net t ht ans ha
  refine we_oexprX (x_call (a_cons (e_var rfl) (a_cons (e_ofN (n_lst (a_cons (e_frzT (e_var rfl) rfl) a_nil) rfl rfl)) a_nil)) rfl c0) rfl ?_
  apply we_exprX
  exact x_callX (y := ⟨"NoMake", [("make", .int x)], [.un, .un]⟩) (a_cons (e_var rfl) (a_cons (e_var rfl) a_nil)) rfl (check_x net x h)
theorem due_eq (b m : Int) (ans : Str) (ha : ans ∈ ansL) : spk b ans m = (decide (ans = "good") && inb b m || decide (ans = "bad") && !inb b m) := by
  have g1 : decide (("good" : Str) = "bad") = false := by decide +kernel
  have g2 : decide (("bad" : Str) = "good") = false := by decide +kernel
  have g3 : decide (("cannot" : Str) = "bad") = false := by decide +kernel
  have g4 : decide (("cannot" : Str) = "good") = false := by decide +kernel
  have g1' : ¬ (("good" : Str) = "bad") := of_decide_eq_false g1
  have g3' : ¬ (("cannot" : Str) = "bad") := of_decide_eq_false g3
  simp only [ansL, List.mem_cons, List.not_mem_nil, or_false] at ha
  rcases ha with rfl | rfl | rfl
  · show (if ("good" : Str) = "bad" then _ else _) = _
    rw [if_neg g1', g1]
    cases inb b m <;> rfl
  · show (if ("bad" : Str) = "bad" then _ else _) = _
    rw [if_pos rfl, g2]
    cases inb b m <;> simp
  · show (if ("cannot" : Str) = "bad" then _ else _) = _
    rw [if_neg g3', g3, g4]
    cases inb b m <;> rfl
theorem right_p (net : List (List Int)) (hN : NetOk net) (hn : net.length ≤ 1000) (rs : List (List Int)) (hl : rs.length = net.length) (hR : FromOk net rs) (t m : Nat) (ht : t < net.length) (hm : m < net.length) (ans : Str) (ha : ans ∈ ansL) : u_qright [.d (dTT net), .d (.list (rs.map dOne)), .d (.tuple [.int (t : Nat), .str ans]), .d (.int (m : Nat))] = .val (.d (.bool true), [.un, .un, .un, .un]) := by
  obtain ⟨b, c, hb⟩ := against_q net hN hn t m ht hm ans ha
  obtain ⟨r, hr⟩ : ∃ r, rs[t]? = some r := ⟨_, List.getElem?_eq_getElem (by omega)⟩
  have hO := hR t r hr
  have hin : decide (((m : Nat) : Int) ∈ r) = inb b (m : Nat) := by
    have := hO.2.2.2 m
    rw [← hb] at this
    cases h : inb b (m : Nat)
    · rw [h] at this; simpa using this
    · rw [h] at this; simpa using this
  refine ok_eq (ok_run rfl ?_)
  unfold b_qright
  apply w_setG
  · exact e_frzT (e_var rfl) rfl
  · rfl
  apply w_set
  · exact e_or (e_and (e_cmp (e_var rfl) e_C (k_eqS (ans_ok ha) (by decide +kernel))) fun _ => e_cmp (e_var rfl) (e_ixL (e_var rfl) (e_var rfl) (at_nat hr)) (k_inOne hO.2.2.1)) fun _ => e_and (e_cmp (e_var rfl) e_C (k_eqS (ans_ok ha) (by decide +kernel))) fun _ => e_cmp (e_var rfl) (e_ixL (e_var rfl) (e_var rfl) (at_nat hr)) (k_ninOne hO.2.2.1)
  rw [hin, ← due_eq b (m : Nat) ans ha]
  refine w_forR (N := 2) (S := Unit) (fun _ _ => True) (fun _ => [.dat false (dTT net), .dat false (.list (rs.map dOne)), .dat false (.tuple [.int (t : Nat), .str ans]), .dat true (.int (m : Nat)), .dat true (.int (t : Nat)), .dat true (.str ans), .dat true (.bool (spk b ans (m : Nat))), .un, .un]) () (i_range1 e_C (cRng_of (by decide) (by decide) (by omega) (by omega))) rfl trivial ?_ ?_
  · rintro i ⟨⟩ hi _
    refine ⟨_, rfl, ?_⟩
    apply w_set
    · exact e_x (x_call (a_cons (e_var rfl) (a_cons (e_var rfl) (a_cons (e_var rfl) a_nil))) rfl c) rfl
    apply w_ifN
    · exact t_or (t_not (t_tst (e_isi (e_var rfl) rfl rfl))) fun _ => t_tst (e_cmp (e_var rfl) (e_var rfl) (k_neT eqt_bool (by decide) rfl rfl))
    · simp [tyIs]
    and_intros
    exact w_nil ⟨(), rfl, trivial⟩
  · rintro ⟨⟩ _
    nofun
    exact ⟨_, _, rfl, rfl, rfl⟩
theorem alone_p (x : Int) : u_qis_alone [.d (xcD "NoMake" [("make", .int x)]), .d (.bool true)] = .val (.d (.bool true), [.un, .un]) := by
  kernel_rfl
theorem own_ok : (["NoMake"] : List Str).any (exIs "NoMake") = true := by decide +kernel
theorem refused_p (net : List (List Int)) (t : Nat) (ht : t < net.length) (ans : Str) (ha : ans ∈ ansL) (x : Int) (h : ¬ (0 ≤ x ∧ x < (net.length : Int))) : u_qrefused [.d (dTT net), .d (.tuple [.int (t : Nat), .str ans]), .d (.int x)] = .val (.d (.bool true), [.un, .un, .un]) := by
  refine ok_eq (ok_run rfl ?_)
  unfold b_qrefused
  have hx := against_x net t ht ans ha x h
  apply w_setX
  · exact x_e e_C
  have hw : WE (bSeq (bExprX (xCall u_p_speaks_against [] (dAc (dVar 0) (dAc (dVar 1) (dAc (dVar 2) dA0))))) bNil) [.dat false (dTT net), .dat false (.tuple [.int (t : Nat), .str ans]), .dat true (.int x), .dat true .none, .un] ⟨"NoMake", [("make", .int x)], [.dat false (dTT net), .dat false (.tuple [.int (t : Nat), .str ans]), .dat true (.int x), .dat true .none, .un]⟩ := by
    apply we_exprX
    exact x_callX (y := ⟨"NoMake", [("make", .int x)], [.un, .un, .un]⟩) (a_cons (e_var rfl) (a_cons (e_var rfl) (a_cons (e_var rfl) a_nil))) rfl hx
  refine w_tryX hw rfl rfl ?_
  have e1 : eX (xCall u_qis_alone [] (dAc (dVar 4) (dAc (dIsx ["NoMake", "NoTrial"] ["NoMake"] (dVar 4)) dA0))) [.dat false (dTT net), .dat false (.tuple [.int (t : Nat), .str ans]), .dat true (.int x), .dat true .none, .dat true (xcD "NoMake" [("make", .int x)])] = .val (.d true (.bool true), [.dat false (dTT net), .dat false (.tuple [.int (t : Nat), .str ans]), .dat true (.int x), .dat true .none, .dat true (xcD "NoMake" [("make", .int x)])]) :=
    e_x (x_call (a_cons (e_var rfl) (a_cons (e_isx (e_var rfl) (by decide +kernel) own_ok) a_nil)) rfl (alone_p x)) rfl
  apply w_setX
  · exact x_c (c_l (n_lst (a_cons e1 a_nil) rfl rfl))
  apply w_ifY
  · exact t_tst (e_ixS (e_varO rfl) e_C rfl rfl)
  · rfl
  and_intros
  apply w_expr
  · apply e_ap
    · rfl
    · exact e_frz (e_att (e_var rfl) (by decide +kernel) rfl)
    · rfl
    · rfl
  and_intros
  apply w_nil
  apply w_ret
  · apply e_cmp
    · exact e_varO rfl
    · exact e_ofN (n_lst (a_cons e_C (a_cons (e_frz (e_var rfl)) a_nil)) rfl rfl)
    · apply k_eq (z := true)
      · rfl
      · rfl
      · rfl
      · rfl
      · simp [PyData.eqv, PyData.eqvAll]
  exact ⟨_, _, rfl, rfl, rfl⟩
theorem law_true (ns : List Int) (hns : ns.length ≤ 63) : u_p_law [.d (.list (ns.map PyData.int))] = .val (.d (.bool true), [.un]) := by
  refine ok_eq (ok_run rfl ?_)
  unfold b_p_law
  refine w_forR (N := max2 1 (min2 (ns.length : Nat) 6)) (S := Unit) (fun i s => True) (fun s => [.dat false (dL ns), .un, .un, .un, .un, .un, .un, .un, .un]) () (i_range1 (fr := true) (e_B (a_cons e_C (a_cons (e_B (a_cons (e_B (a_cons (e_var rfl) a_nil) (k_lenI rfl)) (a_cons e_C a_nil)) k_mn2) a_nil)) k_mx2) (cRng_of (by decide) (by decide) (by unfold max2 min2; split <;> split <;> omega) (by unfold max2 min2; split <;> split <;> omega))) rfl trivial ?_ ?_
  · rintro i ⟨⟩ hi _
    refine ⟨_, rfl, ?_⟩
    obtain ⟨d0, hd0⟩ := feed_t ns i
    apply w_setX
    · apply x_call
      · array_mem_dec
      · rfl
      · exact hd0
    clear hd0
    have hnet : ∃ (net : List (List Int)) (d2 : Dk3), eX (xCallC u_qnet_k12 0 [] (dAc (dVar 2) (dAc (dIxB (dOfN (dLst (dAc (dC (.int 12)) (dAc (dC (.int 40)) dA0)))) (dB kInt (dAc (dAnd (dCmp kEq (dVar 1) (dC (.int 0))) (dCmp kEq (eX (xCallC u_qtake 0 [] (dAc (dVar 2) (dAc (dC (.int 8)) dA0)))) (dC (.int 5)))) dA0))) dA0)))
        [.dat false (dL ns), .dat true (.int (i : Nat)), .own (dk d0), .un, .un, .un, .un, .un, .un] = .val (.d true (dTT net), [.dat false (dL ns), .dat true (.int (i : Nat)), .own (dk d2), .un, .un, .un, .un, .un, .un]) ∧ NetOk net ∧ 1 ≤ net.length ∧ net.length ≤ 40 := by
      have hv : ∀ z : Bool, ∃ m : Nat, atI [PyData.int 12, .int 40] (b2n z) = some (.int (m : Nat)) ∧ 1 ≤ m ∧ m ≤ 40 := fun z => by cases z; exact ⟨12, rfl, by decide, by decide⟩; exact ⟨40, rfl, by decide, by decide⟩
      have hz : ∃ (z : Bool) (d1 : Dk3), dAnd (dCmp kEq (dVar 1) (dC (.int 0))) (dCmp kEq (eX (xCallC u_qtake 0 [] (dAc (dVar 2) (dAc (dC (.int 8)) dA0)))) (dC (.int 5))) [.dat false (dL ns), .dat true (.int (i : Nat)), .own (dk d0), .un, .un, .un, .un, .un, .un] = .val (.d true (.bool z), [.dat false (dL ns), .dat true (.int (i : Nat)), .own (dk d1), .un, .un, .un, .un, .un, .un]) := by
        by_cases h0 : ((i : Nat) : Int) = 0
        · obtain ⟨r, d1, hr, _, _⟩ := take_t d0 8 (by decide) (by decide)
          exact ⟨_, d1, e_andT (e_cmp (e_var rfl) e_C k_eqI) (decide_eq_true h0) (e_cmp (e_x (x_callE (a_cons (e_varO rfl) (a_cons e_C a_nil)) rfl rfl rfl rfl hr rfl rfl) rfl) e_C k_eqI)⟩
        · exact ⟨false, d0, e_andF (e_cmp (e_var rfl) e_C k_eqI) (decide_eq_false h0)⟩
      obtain ⟨z, d1, hz⟩ := hz
      obtain ⟨m, hm, m1, m2⟩ := hv z
      obtain ⟨net, d2, h, hN, n1, n2⟩ := net_t d1 m m1 (by omega)
      refine ⟨net, d2, e_x (x_callE (a_cons (e_varO rfl) (a_cons (e_ixL (e_ofN (n_lst (a_cons e_C (a_cons e_C a_nil)) rfl rfl)) (e_B (a_cons hz a_nil) rfl) hm) a_nil)) rfl rfl rfl rfl h rfl rfl) rfl, hN, n1, by omega⟩
    obtain ⟨net, d2, hnet, hN, n1, n2⟩ := hnet
    apply w_set
    · exact hnet
    clear hnet
    obtain ⟨rs, hrs, hl, hR⟩ := from_t net hN (by omega)
    apply w_set
    · exact e_x (x_call (a_cons (e_var rfl) a_nil) rfl hrs) rfl
    clear hrs
    refine w_forR (N := 4) (S := Dk3) (fun _ _ => True) (fun d => [.dat false (dL ns), .dat true (.int (i : Nat)), .own (dk d), .dat true (dTT net), .dat true (.list (rs.map dOne)), .un, .un, .un, .un]) d2 (i_range1 e_C (cRng_of (by decide) (by decide) (by omega) (by omega))) rfl trivial ?_ ?_
    · rintro j d3 hj _
      refine ⟨_, rfl, ?_⟩
      obtain ⟨t', d4, h4, t0, t1⟩ := take_t d3 (net.length : Nat) (by omega) (by omega)
      obtain ⟨t, rfl⟩ : ∃ t : Nat, t' = (t : Int) := ⟨t'.toNat, by omega⟩
      apply w_set
      · exact e_x (x_callE (a_cons (e_varO rfl) (a_cons (e_B (a_cons (e_var rfl) a_nil) (k_lenJ rfl)) a_nil)) rfl rfl rfl rfl h4 rfl rfl) rfl
      clear h4
      refine w_forL (enc := PyData.str) ansL (S := Dk3) (fun _ _ => True) (fun d => [.dat false (dL ns), .dat true (.int (i : Nat)), .own (dk d), .dat true (dTT net), .dat true (.list (rs.map dOne)), .dat true (.int (j : Nat)), .dat true (.int (t : Nat)), .un, .un]) d4 (i_seqT (fr := true) (e_tup (a_cons e_C (a_cons e_C (a_cons e_C a_nil))) rfl rfl)) rfl trivial ?_ ?_
      · rintro l ans d5 hans _
        have ha := List.mem_of_getElem? hans
        refine ⟨_, rfl, ?_⟩
        dsimp only
        obtain ⟨xs, d6, hx, x1, x2⟩ := spread_t d5 net n1 (by omega)
        refine w_forL (enc := PyData.int) xs (S := Unit) (fun _ _ => True) (fun _ => [.dat false (dL ns), .dat true (.int (i : Nat)), .own (dk d6), .dat true (dTT net), .dat true (.list (rs.map dOne)), .dat true (.int (j : Nat)), .dat true (.int (t : Nat)), .dat true (.str ans), .un]) () (i_seqL (fr := true) (e_xc (x_callE (a_cons (e_varO rfl) (a_cons (e_var rfl) a_nil)) rfl rfl rfl rfl hx rfl rfl))) rfl trivial ?_ ?_
        · rintro q y ⟨⟩ hq _
          have hym := x2 y (List.mem_of_getElem? hq)
          obtain ⟨m, rfl⟩ : ∃ m : Nat, y = (m : Int) := ⟨y.toNat, by omega⟩
          refine ⟨_, rfl, ?_⟩
          have hr := right_p net hN (by omega) rs hl hR t m (by omega) (by omega) ans ha
          apply w_ifN
          · exact t_not (t_tst (e_x (x_call (a_cons (e_var rfl) (a_cons (e_var rfl) (a_cons (e_tup (a_cons (e_frz (e_var rfl)) (a_cons (e_frz (e_var rfl)) a_nil)) rfl rfl) (a_cons (e_var rfl) a_nil)))) rfl hr) rfl))
          · rfl
          and_intros
          exact w_nil ⟨(), rfl, trivial⟩
        · rintro ⟨⟩ _
          obtain ⟨x, d7, h7, hxx⟩ := far_t d6 (net.length : Nat) (by omega)
          have hr := refused_p net t (by omega) ans ha x (by omega)
          apply w_ifN
          · exact t_not (t_tst (e_x (x_call (a_cons (e_var rfl) (a_cons (e_tup (a_cons (e_frz (e_var rfl)) (a_cons (e_frz (e_var rfl)) a_nil)) rfl rfl) (a_cons (e_x (x_callE (a_cons (e_varO rfl) (a_cons (e_B (a_cons (e_var rfl) a_nil) (k_lenJ rfl)) a_nil)) rfl rfl rfl rfl h7 rfl rfl) rfl) a_nil))) rfl hr) rfl))
          · rfl
          and_intros
          exact w_nil ⟨d7, rfl, trivial⟩
      · rintro d5 _
        exact w_nil ⟨d5, rfl, trivial⟩
    · rintro d3 _
      exact w_nil ⟨(), rfl, trivial⟩
  · rintro ⟨⟩ _
    nofun
    exact ⟨_, _, rfl, rfl, rfl⟩
end PDW


end
end
end
end
set_option Elab.async false
set_option linter.all false
set_option maxRecDepth 100000
set_option maxHeartbeats 0
namespace PDW
open PySem PySem.Spec PyProof.Rows L2 PD
def dd0 : He.DefD := ⟨("law", none), "law", "law", defArgs (top 34), defBody (top 34), defScope (top 34), [], []⟩
def dd1 : He.DefD := ⟨("_law_feed", none), "_law_feed", "_law_feed", defArgs (top 25), defBody (top 25), defScope (top 25), [], []⟩
def dd2 : He.DefD := ⟨("_law_cell_at", none), "_law_cell_at", "_law_cell_at", defArgs (top 24), defBody (top 24), defScope (top 24), [], []⟩
def dd3 : He.DefD := ⟨("_law_net", none), "_law_net", "_law_net", defArgs (top 27), defBody (top 27), defScope (top 27), [], []⟩
def dd4 : He.DefD := ⟨("_law_take", none), "_law_take", "_law_take", defArgs (top 26), defBody (top 26), defScope (top 26), [], []⟩
def dd5 : He.DefD := ⟨("_law_from", none), "_law_from", "_law_from", defArgs (top 28), defBody (top 28), defScope (top 28), [], []⟩
def dd6 : He.DefD := ⟨("_law_spread", none), "_law_spread", "_law_spread", defArgs (top 31), defBody (top 31), defScope (top 31), [], []⟩
def dd7 : He.DefD := ⟨("_law_right", none), "_law_right", "_law_right", defArgs (top 33), defBody (top 33), defScope (top 33), [], []⟩
def dd8 : He.DefD := ⟨("speaks_against", none), "speaks_against", "speaks_against", defArgs (top 22), defBody (top 22), defScope (top 22), [], []⟩
def dd9 : He.DefD := ⟨("check_trials", none), "check_trials", "check_trials", defArgs (top 20), defBody (top 20), defScope (top 20), [], []⟩
def dd10 : He.DefD := ⟨("check_make", none), "check_make", "check_make", defArgs (top 15), defBody (top 15), defScope (top 15), [], []⟩
def dd11 : He.DefD := ⟨("speaks", none), "speaks", "speaks", defArgs (top 21), defBody (top 21), defScope (top 21), [], []⟩
def dd12 : He.DefD := ⟨("is_in", none), "is_in", "is_in", defArgs (top 17), defBody (top 17), defScope (top 17), [], []⟩
def dd13 : He.DefD := ⟨("bits_of", none), "bits_of", "bits_of", defArgs (top 16), defBody (top 16), defScope (top 16), [], []⟩
def dd14 : He.DefD := ⟨("_law_refused", none), "_law_refused", "_law_refused", defArgs (top 32), defBody (top 32), defScope (top 32), [], []⟩
def dd15 : He.DefD := ⟨("_law_is_alone", none), "_law_is_alone", "_law_is_alone", defArgs (top 30), defBody (top 30), defScope (top 30), [], []⟩
def dd16 : He.DefD := ⟨("_law_far", none), "_law_far", "_law_far", defArgs (top 29), defBody (top 29), defScope (top 29), [], []⟩
def dd17 : He.DefD := ⟨("NoTrial", some "__init__"), "__init__", "NoTrial.__init__", defArgs (clsInit (top 5)), defBody (clsInit (top 5)), defScope (clsInit (top 5)), [], []⟩
def dd18 : He.DefD := ⟨("NoMake", some "__init__"), "__init__", "NoMake.__init__", defArgs (clsInit (top 4)), defBody (clsInit (top 4)), defScope (clsInit (top 4)), [], []⟩
def fnD : List He.DefD := [dd0, dd1, dd2, dd3, dd4, dd5, dd6, dd7, dd8, dd9, dd10, dd11, dd12, dd13, dd14, dd15, dd16, dd17, dd18]
def faD : List He.Fa := ([.glo "law", .glo "_law_feed", .glo "_law_cell_at", .glo "_law_net", .glo "_law_take", .glo "_law_from", .glo "_law_spread", .glo "_law_right", .glo "speaks_against", .glo "check_trials", .glo "check_make", .glo "speaks"] : List He.Fa) ++ ([.glo "is_in", .glo "bits_of", .glo "_law_refused", .glo "_law_is_alone", .glo "_law_far", .free "range", .free "max", .free "min", .free "len", .free "tuple", .free "int", .free "enumerate"] : List He.Fa) ++ ([.free "list", .free "isinstance", .free "bool", .free "ValueError", .glo "NoMake", .glo "NoTrial", .glo "HuntError", .glo "NoBook", .glo "NoName", .glo "NoNet", .glo "NoOrder", .glo "NoPlan"] : List He.Fa) ++ ([.glo "NoRow", .glo "NoText", .glo "NoTruth", .glo "NothingTold", .glo "TooGreat", .glo "ANSWERS"] : List He.Fa)
def fxD : List (PySem.W.Frag → Bool) := [fun K => He.tupB K "ANSWERS" [.str "good", .str "bad", .str "cannot"], fun K => PD.xallB K ["NoMake", "NoTrial"] ["HuntError", "NoBook", "NoMake", "NoName", "NoNet", "NoOrder", "NoPlan", "NoRow", "NoText", "NoTrial", "NoTruth", "NothingTold", "TooGreat", "ValueError"] ["HuntError"] ["make", "place"], PD.huntB, fun K => PD.iniB K "NoTrial", fun K => PD.iniB K "NoMake"]
abbrev RR : PySem.W.OpenRow := PySem.W.OpenLaw.row PySem.Challenge.rw_badbegins_k10_trials_that_speak
abbrev hkD : PySem.W.Hook := PD.hookX 4 fxD faD fnD
def obD (z : PySem.W.SharedT) : He.AlD := PD.obsXG 4 fxD faD fnD (HandSHeadRun.getT z)
theorem obD_eq (z : PySem.W.SharedT) : obD z = hkD.obs z.abs := PD.obsXG_eq (HandSHeadRun.getT_eq z)
def looseD : List Str := (["HuntError", "NoNet", "NoOrder", "NoMake", "NoTrial", "NoTruth", "NoPlan", "NoBook", "TooGreat", "NoText", "NoName", "NothingTold"] : List Str) ++ (["NoRow", "check_make", "bits_of", "is_in", "ANSWERS", "check_trials", "speaks", "speaks_against", "_law_cell_at", "_law_feed", "_law_take", "_law_net"] : List Str) ++ (["_law_from", "_law_far", "_law_is_alone", "_law_spread", "_law_refused", "_law_right"] : List Str)
theorem runD (w : World) : HandSHeadRun.RunEq RR (PySem.W.view RR.prog [34]) hkD obD 4000 looseD w := by
  intro os
  kernel_rfl
theorem envD {K : PySem.W.Frag} {hp : Heap} {mg : Str → Option Value} (X : K.In hp) (G : hp.Ns mainGlobals mg) (c : PD.SaysX fxD faD fnD K) : Env K mg where
  d_p_law := ⟨_, _, (c.d.def_ 0 (d := dd0) rfl).choose_spec, He.glo_ok X G (c.d.fact 0 (f := .glo "law") rfl)⟩
  d_qfeed := ⟨_, _, (c.d.def_ 1 (d := dd1) rfl).choose_spec, He.glo_ok X G (c.d.fact 1 (f := .glo "_law_feed") rfl)⟩
  d_qcell_at := ⟨_, _, (c.d.def_ 2 (d := dd2) rfl).choose_spec, He.glo_ok X G (c.d.fact 2 (f := .glo "_law_cell_at") rfl)⟩
  d_qnet := ⟨_, _, (c.d.def_ 3 (d := dd3) rfl).choose_spec, He.glo_ok X G (c.d.fact 3 (f := .glo "_law_net") rfl)⟩
  d_qtake := ⟨_, _, (c.d.def_ 4 (d := dd4) rfl).choose_spec, He.glo_ok X G (c.d.fact 4 (f := .glo "_law_take") rfl)⟩
  d_qfrom := ⟨_, _, (c.d.def_ 5 (d := dd5) rfl).choose_spec, He.glo_ok X G (c.d.fact 5 (f := .glo "_law_from") rfl)⟩
  d_qspread := ⟨_, _, (c.d.def_ 6 (d := dd6) rfl).choose_spec, He.glo_ok X G (c.d.fact 6 (f := .glo "_law_spread") rfl)⟩
  d_qright := ⟨_, _, (c.d.def_ 7 (d := dd7) rfl).choose_spec, He.glo_ok X G (c.d.fact 7 (f := .glo "_law_right") rfl)⟩
  d_p_speaks_against := ⟨_, _, (c.d.def_ 8 (d := dd8) rfl).choose_spec, He.glo_ok X G (c.d.fact 8 (f := .glo "speaks_against") rfl)⟩
  d_p_check_trials := ⟨_, _, (c.d.def_ 9 (d := dd9) rfl).choose_spec, He.glo_ok X G (c.d.fact 9 (f := .glo "check_trials") rfl)⟩
  d_p_check_make := ⟨_, _, (c.d.def_ 10 (d := dd10) rfl).choose_spec, He.glo_ok X G (c.d.fact 10 (f := .glo "check_make") rfl)⟩
  d_p_speaks := ⟨_, _, (c.d.def_ 11 (d := dd11) rfl).choose_spec, He.glo_ok X G (c.d.fact 11 (f := .glo "speaks") rfl)⟩
  d_p_is_in := ⟨_, _, (c.d.def_ 12 (d := dd12) rfl).choose_spec, He.glo_ok X G (c.d.fact 12 (f := .glo "is_in") rfl)⟩
  d_p_bits_of := ⟨_, _, (c.d.def_ 13 (d := dd13) rfl).choose_spec, He.glo_ok X G (c.d.fact 13 (f := .glo "bits_of") rfl)⟩
  d_qrefused := ⟨_, _, (c.d.def_ 14 (d := dd14) rfl).choose_spec, He.glo_ok X G (c.d.fact 14 (f := .glo "_law_refused") rfl)⟩
  d_qis_alone := ⟨_, _, (c.d.def_ 15 (d := dd15) rfl).choose_spec, He.glo_ok X G (c.d.fact 15 (f := .glo "_law_is_alone") rfl)⟩
  d_qfar := ⟨_, _, (c.d.def_ 16 (d := dd16) rfl).choose_spec, He.glo_ok X G (c.d.fact 16 (f := .glo "_law_far") rfl)⟩
  b_range := He.free_ok X G (c.d.fact 17 (f := .free "range") rfl)
  b_max := He.free_ok X G (c.d.fact 18 (f := .free "max") rfl)
  b_min := He.free_ok X G (c.d.fact 19 (f := .free "min") rfl)
  b_len := He.free_ok X G (c.d.fact 20 (f := .free "len") rfl)
  b_tuple := He.free_ok X G (c.d.fact 21 (f := .free "tuple") rfl)
  b_int := He.free_ok X G (c.d.fact 22 (f := .free "int") rfl)
  b_enumerate := He.free_ok X G (c.d.fact 23 (f := .free "enumerate") rfl)
  b_list := He.free_ok X G (c.d.fact 24 (f := .free "list") rfl)
  b_isinstance := He.free_ok X G (c.d.fact 25 (f := .free "isinstance") rfl)
  b_bool := He.free_ok X G (c.d.fact 26 (f := .free "bool") rfl)
  b_ValueError := He.free_ok X G (c.d.fact 27 (f := .free "ValueError") rfl)
  t_ANSWERS := ⟨(He.glo_ok X G (c.d.fact 41 (f := .glo "ANSWERS") rfl)), fun H => He.tupB_ok (vs := [.str "good", .str "bad", .str "cannot"]) (c.x 0) H, fun _ _ => (.cons (.str _) (.cons (.str _) (.cons (.str _) .nil)))⟩
  x_all := PD.xall_ok (c.x 1) (PD.all_cons (He.glo_ok X G (c.d.fact 28 (f := .glo "NoMake") rfl)) (PD.all_cons (He.glo_ok X G (c.d.fact 29 (f := .glo "NoTrial") rfl)) PD.all_nil)) (PD.all_cons (fun _ => (He.glo_ok X G (c.d.fact 30 (f := .glo "HuntError") rfl))) (PD.all_cons (fun _ => (He.glo_ok X G (c.d.fact 31 (f := .glo "NoBook") rfl))) (PD.all_cons (fun _ => (He.glo_ok X G (c.d.fact 28 (f := .glo "NoMake") rfl))) (PD.all_cons (fun _ => (He.glo_ok X G (c.d.fact 32 (f := .glo "NoName") rfl))) (PD.all_cons (fun _ => (He.glo_ok X G (c.d.fact 33 (f := .glo "NoNet") rfl))) (PD.all_cons (fun _ => (He.glo_ok X G (c.d.fact 34 (f := .glo "NoOrder") rfl))) (PD.all_cons (fun _ => (He.glo_ok X G (c.d.fact 35 (f := .glo "NoPlan") rfl))) (PD.all_cons (fun _ => (He.glo_ok X G (c.d.fact 36 (f := .glo "NoRow") rfl))) (PD.all_cons (fun _ => (He.glo_ok X G (c.d.fact 37 (f := .glo "NoText") rfl))) (PD.all_cons (fun _ => (He.glo_ok X G (c.d.fact 29 (f := .glo "NoTrial") rfl))) (PD.all_cons (fun _ => (He.glo_ok X G (c.d.fact 38 (f := .glo "NoTruth") rfl))) (PD.all_cons (fun _ => (He.glo_ok X G (c.d.fact 39 (f := .glo "NothingTold") rfl))) (PD.all_cons (fun _ => (He.glo_ok X G (c.d.fact 40 (f := .glo "TooGreat") rfl))) (PD.all_cons (fun z => absurd rfl z) PD.all_nil)))))))))))))) (PD.all_cons (He.glo_ok X G (c.d.fact 30 (f := .glo "HuntError") rfl)) PD.all_nil)
  hunt := ⟨PD.huntB_ok (c.x 2), (He.glo_ok X G (c.d.fact 30 (f := .glo "HuntError") rfl))⟩
  i_NoTrial := c.d.def_ 17 (d := dd17) rfl
  j_NoTrial := PD.iniB_ok (c.x 3)
  i_NoMake := c.d.def_ 18 (d := dd18) rfl
  j_NoMake := PD.iniB_ok (c.x 4)
theorem lawD {P : Program} {w : World} {K : PySem.W.Frag} {hp : Heap} {mg : Str → Option Value} {f : Addr} (X : K.In hp) (G : hp.Ns mainGlobals mg) (hf : mg ("law" : Str) = some (.ref f)) (c : PD.SaysX fxD faD fnD K) :
    ∃ fd : FuncData, (∀ (z : Shared) (v : Value), BindsTo z fd ⟨[v], []⟩ [("_law_script", v)]) ∧ ∀ base : Heap, FnOk P w K mg base (L2.CX P w) 6 f fd ["_law_script"] (spU K mg u_p_law) := by
  obtain ⟨fd, F⟩ := c.d.def_ 0 (d := dd0) rfl
  have e := hf.symm.trans (He.glo_ok X G (c.d.fact 0 (f := .glo "law") rfl))
  cases e
  have b := FunD.bindsA (ps := ["_law_script"]) F fun _ _ _ _ _ _ us hl => match us, hl with | [_], _ => rfl
  exact ⟨fd, fun z v => b z [v] rfl, fun base => fo_p_law (envD X G c) F⟩
theorem spD {K : PySem.W.Frag} {mg : Str → Option Value} {H : Hp} {a : Addr} {ns : List Int} (hl : ns.length ≤ 63) (hS : SqL K H a (ns.map V.int)) : spU K mg u_p_law [.ref a] H (fun v _ => v = .bl true) fun _ _ _ => False := spU_law (law_true ns hl) hS
theorem walkD {l : PySem.W.OpenLaw} {n k : Nat} {q : Program} {loose : List Str} {XP : (Str → Option Value) → Heap → Prop} {YP : World → Heap → Prop} {d : DefRec} {x : Str} (hn : l.most = some n) (hn2 : n ≤ sizeLine) (hdf : d.params.defaults = []) (hr : Room k callerA)
    (F : ∀ (w : World) (mg : Str → Option Value) (fa : Addr) (h : Heap), YP w h → h.Ns mainGlobals mg → mg d.name = some (.ref fa) →
      ∃ (K : PySem.W.Frag) (fd : FuncData) (sp : Sp), K.In h ∧ (∀ (z : Shared) (u : Value), BindsTo z fd ⟨[u], []⟩ [(x, u)]) ∧
        (∀ (H : Hp) (a : Addr) (ns : List Int), ns.length ≤ n → Only H → SqL K H a (ns.map V.int) → sp [.ref a] H (fun v _ => v = .bl true) fun _ _ _ => False) ∧
        ∀ base : Heap, K.In base → base.Ns mainGlobals mg → FnOk l.prog w K mg base (L2.CX l.prog w) k fa fd [x] sp) :
    PySem.W.WalkO q loose XP YP l.row.toRowW d [] (fun f vs => PySem.call f vs) := by
  refine Att.attach_call hn hdf fun w s0 s1 mg mb fa o pm cd doc a vs ns G Y ho hd hcd hmg hobj hints hlen hg => ?_
  obtain ⟨K, fd, sp, KX, hb, hsp, hF⟩ := F w mg fa _ Y G.T.g hmg
  exact law_call KX G.T.g G.T.b G.T.builtins G.T.nolimit hg hobj hints (Nat.le_trans hlen hn2) hr hF hb (fun H hO hS => hsp H a ns hlen hO hS) fun H e s' ⟨_, _, _, _, _, _, _, _, _, _, _, _, z⟩ => z
end PDW
open PySem PySem.W PySem.Calls PyProof.Rows
theorem PySem.Challenge.cw_badbegins_k10_trials_that_speak_holds : PySem.Challenge.rw_badbegins_k10_trials_that_speak.Holds := by
  w_on; o_law
  refine HandSHeadRun.head_any (r := OpenLaw.row PySem.Challenge.rw_badbegins_k10_trials_that_speak) (q := view (OpenLaw.row PySem.Challenge.rw_badbegins_k10_trials_that_speak).prog [34]) (H := PDW.hkD) (ob := PDW.obD) (M := 4000) (loose := PDW.looseD) (d := HandSHeadRun.topDef (OpenLaw.row PySem.Challenge.rw_badbegins_k10_trials_that_speak).prog 34) (kwd := []) PDW.obD_eq
    (by kernel_rfl) (fun z => by kernel_rfl) PDW.runD (by kernel_rfl) (by kernel_rfl) (by kernel_rfl) (by rfl) (by first | assumption | decide +kernel) (by decide +kernel) ⟨rfl, rfl, rfl, rfl, rfl, by decide +kernel⟩ ?hw ?hc
  case hw => w_witness2
  case hc =>
    refine PDW.walkD (l := PySem.Challenge.rw_badbegins_k10_trials_that_speak) (n := 63) (k := 6) (x := "_law_script") rfl (by decide) (by kernel_rfl) ⟨rfl, by decide, by decide⟩ ?F
    intro w mg fa hp Y G hmg0
    obtain ⟨K, KX, c⟩ := Y
    have hmg : mg ("law" : PySem.Str) = some (.ref fa) := by
      have e : (HandSHeadRun.topDef (OpenLaw.row PySem.Challenge.rw_badbegins_k10_trials_that_speak).prog 34).name = ("law" : PySem.Str) := by kernel_rfl
      rw [← e]
      exact hmg0
    obtain ⟨fd, hb, hF⟩ := PDW.lawD (P := PySem.Challenge.rw_badbegins_k10_trials_that_speak.prog) (w := w) KX G hmg c
    exact ⟨K, fd, _, KX, hb, fun H a ns hl _ hS => PDW.spD hl hS, fun base _ _ => hF base⟩


