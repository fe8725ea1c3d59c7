import PyProof.Rows.All
import Wide.All
import OpenK.AllK
import Wide.FinOn
import HandS.ForMost
import HandS.ForExc
import HandS.CallSlots
import HandS.Defaults
import HandS.IsInst
import HandS.SortInts
import HandS.Wide
import HandS.WideBits
import HandS.Lambda
import HandS.Zip
import HandS.Iter
import HandS.More
import KE.GoesEnum
import HandS.SetFor
import HandS.Strs
import HandS.TupAny
import HandS.Deep
import HandS.Dict
import HandS.TupSets
import KE.OsArith
import HandS.Base
import HandS.Call
import HandS.Ends
import HandS.Words
import HandS.WordsExc
import HandS.Head0
import HandS.Head1
import HandS.Head2
import HandS.HeadEnd
import HandS.HeadHook1
import HandS.HeadHook2
import KE.KStateDown
import Lean
import PySem.Challenge.RW_badbegins_k40_halving_makes
set_option Elab.async false
set_option linter.all false
set_option maxRecDepth 100000
set_option maxHeartbeats 4000000
namespace PD
open PySem L2

/-! ## outcomes -/
structure Exn where
  cls : Str
  flds : List (Str × PyData)
inductive R (α : Type) where
  | val (a : α)
  | exc (x : Exn)
  | bad
def R.bind {α β : Type} : R α → (α → R β) → R β
  | .val a, k => k a
  | .exc x, _ => .exc x
  | .bad, _ => .bad

/-! ## data in the heap; the lists lie in a region -/
abbrev Rg := Addr → HO → Prop
def LsR (K : PySem.W.Frag) (G : Rg) (a : Addr) (xs : List V) : Prop :=
  G a (.lst xs) ∨ (∃ o, G a (.frz o (.lst xs))) ∨ SqL K (fun _ => none) a xs
mutual
inductive Dn (K : PySem.W.Frag) (G : Rg) (H : Hp) : V → PyData → Prop
  | non : Dn K G H .non .none
  | bl (b : Bool) : Dn K G H (.bl b) (.bool b)
  | int (i : Int) : Dn K G H (.int i) (.int i)
  | str (x : Str) : Dn K G H (.str x) (.str x)
  | lst {a : Addr} {xs : List V} {ds : List PyData} : LsR K G a xs → DnA K G H xs ds → Dn K G H (.ref a) (.list ds)
  | tup {a : Addr} {xs : List V} {ds : List PyData} : SqT K H a xs → DnA K G H xs ds → Dn K G H (.ref a) (.tuple ds)
inductive DnA (K : PySem.W.Frag) (G : Rg) (H : Hp) : List V → List PyData → Prop
  | nil : DnA K G H [] []
  | cons {v : V} {vs : List V} {d : PyData} {ds : List PyData} : Dn K G H v d → DnA K G H vs ds → DnA K G H (v :: vs) (d :: ds)
end
def TupLe (H H' : Hp) : Prop := ∀ a xs, Rd H a (.tup xs) → Rd H' a (.tup xs)
theorem TupLe.rf (H : Hp) : TupLe H H := fun _ _ h => h
theorem TupLe.tr {H H1 H2 : Hp} (a : TupLe H H1) (b : TupLe H1 H2) : TupLe H H2 := fun c xs h => b c xs (a c xs h)
theorem TupLe.seq {K : PySem.W.Frag} {H H' : Hp} {a : Addr} {xs : List V} (t : TupLe H H') (h : SqT K H a xs) : SqT K H' a xs :=
  h.elim (fun z => .inl (t _ _ z)) .inr
def RgLe (G G' : Rg) : Prop := ∀ a o, G a o → G' a o
theorem LsR.mono {K : PySem.W.Frag} {G G' : Rg} {a : Addr} {xs : List V} (h : LsR K G a xs) (g : RgLe G G') : LsR K G' a xs := by
  rcases h with h | ⟨o, h⟩ | h
  · exact .inl (g _ _ h)
  · exact .inr (.inl ⟨o, g _ _ h⟩)
  · exact .inr (.inr h)
mutual
theorem Dn.mono {K : PySem.W.Frag} {G G' : Rg} {H H' : Hp} (g : RgLe G G') (t : TupLe H H') : ∀ {v : V} {d : PyData}, Dn K G H v d → Dn K G' H' v d
  | _, _, .non => .non
  | _, _, .bl b => .bl b
  | _, _, .int i => .int i
  | _, _, .str x => .str x
  | _, _, .lst h a => .lst (h.mono g) (DnA.mono g t a)
  | _, _, .tup h a => .tup (t.seq h) (DnA.mono g t a)
theorem DnA.mono {K : PySem.W.Frag} {G G' : Rg} {H H' : Hp} (g : RgLe G G') (t : TupLe H H') : ∀ {vs : List V} {ds : List PyData}, DnA K G H vs ds → DnA K G' H' vs ds
  | _, _, .nil => .nil
  | _, _, .cons h a => .cons (Dn.mono g t h) (DnA.mono g t a)
end
/-- no list within -/
def flat : PyData → Bool
  | .none => true
  | .bool _ => true
  | .int _ => true
  | .str _ => true
  | .tuple xs => flatA xs
  | _ => false
where flatA : List PyData → Bool
  | [] => true
  | d :: ds => flat d && flatA ds
mutual
theorem Dn.free {K : PySem.W.Frag} {G G' : Rg} {H : Hp} : ∀ {v : V} {d : PyData}, Dn K G H v d → flat d = true → Dn K G' H v d
  | _, _, .non, _ => .non
  | _, _, .bl b, _ => .bl b
  | _, _, .int i, _ => .int i
  | _, _, .str x, _ => .str x
  | _, _, .lst _ _, h => by simp [flat] at h
  | _, _, .tup h a, f => .tup h (DnA.free a (by simpa [flat] using f))
theorem DnA.free {K : PySem.W.Frag} {G G' : Rg} {H : Hp} : ∀ {vs : List V} {ds : List PyData}, DnA K G H vs ds → flat.flatA ds = true → DnA K G' H vs ds
  | _, _, .nil, _ => .nil
  | _, _, .cons h a, f => by
    simp only [flat.flatA, Bool.and_eq_true] at f
    exact .cons (Dn.free h f.1) (DnA.free a f.2)
end
theorem DnA.length {K : PySem.W.Frag} {G : Rg} {H : Hp} : ∀ {vs : List V} {ds : List PyData}, DnA K G H vs ds → vs.length = ds.length
  | _, _, .nil => rfl
  | _, _, .cons _ a => by simp [a.length]
theorem DnA.get {K : PySem.W.Frag} {G : Rg} {H : Hp} : ∀ {vs : List V} {ds : List PyData} {i : Nat} {v : V}, DnA K G H vs ds → vs[i]? = some v → ∃ d, ds[i]? = some d ∧ Dn K G H v d
  | _, _, _, _, .nil, e => by simp at e
  | _, _, 0, _, .cons h _, e => by simp at e; subst e; exact ⟨_, rfl, h⟩
  | _, _, i + 1, v, .cons _ a, e => by
    obtain ⟨d, h1, h2⟩ := DnA.get (i := i) (v := v) a (by simpa using e)
    exact ⟨d, by simpa using h1, h2⟩
theorem DnA.get' {K : PySem.W.Frag} {G : Rg} {H : Hp} : ∀ {vs : List V} {ds : List PyData} {i : Nat} {d : PyData}, DnA K G H vs ds → ds[i]? = some d → ∃ v, vs[i]? = some v ∧ Dn K G H v d
  | _, _, _, _, .nil, e => by simp at e
  | _, _, 0, _, .cons h _, e => by simp at e; subst e; exact ⟨_, rfl, h⟩
  | _, _, i + 1, v, .cons _ a, e => by
    obtain ⟨d, h1, h2⟩ := DnA.get' (i := i) (d := v) a (by simpa using e)
    exact ⟨d, by simpa using h1, h2⟩
theorem DnA.append {K : PySem.W.Frag} {G : Rg} {H : Hp} : ∀ {vs ws : List V} {ds es : List PyData}, DnA K G H vs ds → DnA K G H ws es → DnA K G H (vs ++ ws) (ds ++ es)
  | _, _, _, _, .nil, b => b
  | _, _, _, _, .cons h a, b => .cons h (DnA.append a b)
theorem DnA.drop {K : PySem.W.Frag} {G : Rg} {H : Hp} : ∀ {vs : List V} {ds : List PyData} (n : Nat), DnA K G H vs ds → DnA K G H (vs.drop n) (ds.drop n)
  | _, _, 0, a => a
  | _, _, _ + 1, .nil => .nil
  | _, _, n + 1, .cons _ a => DnA.drop n a
theorem DnA.take {K : PySem.W.Frag} {G : Rg} {H : Hp} : ∀ {vs : List V} {ds : List PyData} (n : Nat), DnA K G H vs ds → DnA K G H (vs.take n) (ds.take n)
  | _, _, 0, _ => .nil
  | _, _, _ + 1, .nil => .nil
  | _, _, n + 1, .cons h a => .cons h (DnA.take n a)
theorem DnA.set {K : PySem.W.Frag} {G : Rg} {H : Hp} {v : V} {d : PyData} (h : Dn K G H v d) : ∀ {vs : List V} {ds : List PyData} (i : Nat), DnA K G H vs ds → DnA K G H (vs.set i v) (ds.set i d)
  | _, _, _, .nil => .nil
  | _, _, 0, .cons _ a => .cons h a
  | _, _, i + 1, .cons q a => .cons q (DnA.set h i a)
theorem DnA.reverse {K : PySem.W.Frag} {G : Rg} {H : Hp} : ∀ {vs : List V} {ds : List PyData}, DnA K G H vs ds → DnA K G H vs.reverse ds.reverse
  | _, _, .nil => .nil
  | _, _, .cons h a => by
    rw [List.reverse_cons, List.reverse_cons]
    exact DnA.append (DnA.reverse a) (.cons h .nil)
theorem dn_int {K : PySem.W.Frag} {G : Rg} {H : Hp} {v : V} {i : Int} (h : Dn K G H v (.int i)) : v = .int i := by cases h; rfl
theorem dn_bool {K : PySem.W.Frag} {G : Rg} {H : Hp} {v : V} {b : Bool} (h : Dn K G H v (.bool b)) : v = .bl b := by cases h; rfl
theorem dn_str {K : PySem.W.Frag} {G : Rg} {H : Hp} {v : V} {x : Str} (h : Dn K G H v (.str x)) : v = .str x := by cases h; rfl
theorem dn_none {K : PySem.W.Frag} {G : Rg} {H : Hp} {v : V} (h : Dn K G H v .none) : v = .non := by cases h; rfl
theorem dn_list {K : PySem.W.Frag} {G : Rg} {H : Hp} {v : V} {ds : List PyData} (h : Dn K G H v (.list ds)) : ∃ a xs, v = .ref a ∧ LsR K G a xs ∧ DnA K G H xs ds := by
  cases h with | lst h a => exact ⟨_, _, rfl, h, a⟩
theorem dn_tuple {K : PySem.W.Frag} {G : Rg} {H : Hp} {v : V} {ds : List PyData} (h : Dn K G H v (.tuple ds)) : ∃ a xs, v = .ref a ∧ SqT K H a xs ∧ DnA K G H xs ds := by
  cases h with | tup h a => exact ⟨_, _, rfl, h, a⟩
theorem dna_ints {K : PySem.W.Frag} {G : Rg} {H : Hp} : ∀ {ns : List Int} {vs : List V}, DnA K G H vs (ns.map PyData.int) → vs = ns.map V.int
  | [], _, .nil => rfl
  | n :: ns, _, .cons h a => by rw [dn_int h, dna_ints a]; rfl
theorem dna_strs {K : PySem.W.Frag} {G : Rg} {H : Hp} : ∀ {ns : List Str} {vs : List V}, DnA K G H vs (ns.map PyData.str) → vs = ns.map V.str
  | [], _, .nil => rfl
  | n :: ns, _, .cons h a => by rw [dn_str h, dna_strs a]; rfl
theorem dna_bools {K : PySem.W.Frag} {G : Rg} {H : Hp} : ∀ {ns : List Bool} {vs : List V}, DnA K G H vs (ns.map PyData.bool) → vs = ns.map V.bl
  | [], _, .nil => rfl
  | n :: ns, _, .cons h a => by rw [dn_bool h, dna_bools a]; rfl
theorem ints_dna {K : PySem.W.Frag} {G : Rg} {H : Hp} : ∀ (ns : List Int), DnA K G H (ns.map V.int) (ns.map PyData.int)
  | [] => .nil
  | n :: ns => .cons (.int n) (ints_dna ns)
theorem strs_dna {K : PySem.W.Frag} {G : Rg} {H : Hp} : ∀ (ns : List Str), DnA K G H (ns.map V.str) (ns.map PyData.str)
  | [] => .nil
  | n :: ns => .cons (.str n) (strs_dna ns)
/-- the region that is all of the heap -/
abbrev RgH (H : Hp) : Rg := fun a o => H a = some o
theorem LsR.sq {K : PySem.W.Frag} {H : Hp} {a : Addr} {xs : List V} (h : LsR K (RgH H) a xs) : SqL K H a xs := by
  rcases h with h | ⟨o, h⟩ | h
  · exact .inl (.inl h)
  · exact .inl (.inr ⟨o, h⟩)
  · rcases h with (h | ⟨o, h⟩) | h
    · cases h
    · cases h
    · exact .inr h
theorem LsR.of_sq {K : PySem.W.Frag} {H : Hp} {a : Addr} {xs : List V} (h : SqL K H a xs) : LsR K (RgH H) a xs := by
  rcases h with (h | ⟨o, h⟩) | h
  · exact .inl h
  · exact .inr (.inl ⟨o, h⟩)
  · exact .inr (.inr (.inr h))
mutual
theorem Dn.dp {K : PySem.W.Frag} {H : Hp} : ∀ {v : V} {d : PyData}, Dn K (RgH H) H v d → Dp K H v d
  | _, _, .non => .non
  | _, _, .bl b => .bl b
  | _, _, .int i => .int i
  | _, _, .str x => .str x
  | _, _, .lst h a => .lst h.sq (DnA.dp a)
  | _, _, .tup h a => .tup h (DnA.dp a)
theorem DnA.dp {K : PySem.W.Frag} {H : Hp} : ∀ {vs : List V} {ds : List PyData}, DnA K (RgH H) H vs ds → DpAll K H vs ds
  | _, _, .nil => .nil
  | _, _, .cons h a => .cons (Dn.dp h) (DnA.dp a)
end

/-! ## ghosts, cells, slots, states -/
/-- H0: the heap at the entry; P: the addresses of it that may change (cells handed in); I: the cells' values by slot; N: what is new and frozen; E: what lies beside -/
structure Gh where
  H0 : Hp
  P : List Addr
  I : Nat → Option V
  N : Hp
  E : Hp
abbrev RgN (G : Gh) : Rg := fun a o => G.N a = some o
def RgA (G : Gh) : Rg := fun a o => G.N a = some o ∨ (G.H0 a = some o ∧ a ∉ G.P)
def rg (G : Gh) : Bool → Rg
  | true => RgN G
  | false => RgA G
structure Wf (G : Gh) (H : Hp) : Prop where
  keep : ∀ a o, G.H0 a = some o → a ∉ G.P → H a = some o
  new : ∀ a o, G.N a = some o → H a = some o ∧ G.H0 a = none
  pal : ∀ a, a ∈ G.P → H a ≠ none
  p0 : ∀ a, a ∈ G.P → G.H0 a ≠ none
  ex : ∀ a o, G.E a = some o → H a = some o ∧ G.N a = none ∧ G.H0 a = none ∧ a ∉ G.P
theorem Wf.rgl {G : Gh} {H : Hp} (w : Wf G H) (fr : Bool) : RgLe (rg G fr) (RgH H) := fun a o h => by
  cases fr with
  | true => exact (w.new a o h).1
  | false =>
    rcases h with h | ⟨h1, h2⟩
    · exact (w.new a o h).1
    · exact w.keep a o h1 h2
theorem Wf.dn {K : PySem.W.Frag} {G : Gh} {H : Hp} {fr : Bool} {v : V} {d : PyData} (w : Wf G H) (h : Dn K (rg G fr) H v d) : Dn K (RgH H) H v d := h.mono (w.rgl fr) (TupLe.rf _)
theorem rg_le (G : Gh) (fr : Bool) : RgLe (rg G true) (rg G fr) := fun a o h => by
  cases fr with
  | true => exact h
  | false => exact .inl h
theorem rg_ff (G : Gh) (fr : Bool) : RgLe (rg G fr) (rg G false) := fun a o h => by
  cases fr with
  | true => exact .inl h
  | false => exact h
structure Ext (G : Gh) (H : Hp) (G' : Gh) (H' : Hp) : Prop where
  h0 : G'.H0 = G.H0
  p : G'.P = G.P
  i : G'.I = G.I
  e : G'.E = G.E
  n : ∀ a o, G.N a = some o → G'.N a = some o
  t : TupLe H H'
  w : Wf G' H'
theorem Ext.rf {G : Gh} {H : Hp} (w : Wf G H) : Ext G H G H := ⟨rfl, rfl, rfl, rfl, fun _ _ h => h, TupLe.rf _, w⟩
theorem Ext.tr {G G1 G2 : Gh} {H H1 H2 : Hp} (a : Ext G H G1 H1) (b : Ext G1 H1 G2 H2) : Ext G H G2 H2 :=
  ⟨b.h0.trans a.h0, b.p.trans a.p, b.i.trans a.i, b.e.trans a.e, fun c o h => b.n c o (a.n c o h), a.t.tr b.t, b.w⟩
theorem Ext.rgl {G G' : Gh} {H H' : Hp} (e : Ext G H G' H') (fr : Bool) : RgLe (rg G fr) (rg G' fr) := fun a o h => by
  cases fr with
  | true => exact e.n a o h
  | false =>
    rcases h with h | ⟨h1, h2⟩
    · exact .inl (e.n a o h)
    · exact .inr ⟨by rw [e.h0]; exact h1, by rw [e.p]; exact h2⟩
theorem Ext.dn {K : PySem.W.Frag} {G G' : Gh} {H H' : Hp} {fr : Bool} {v : V} {d : PyData} (e : Ext G H G' H') (h : Dn K (rg G fr) H v d) : Dn K (rg G' fr) H' v d := h.mono (e.rgl fr) e.t
theorem Ext.dna {K : PySem.W.Frag} {G G' : Gh} {H H' : Hp} {fr : Bool} {v : List V} {d : List PyData} (e : Ext G H G' H') (h : DnA K (rg G fr) H v d) : DnA K (rg G' fr) H' v d := h.mono (e.rgl fr) e.t

/-- the same, whatever lies beside -/
structure Le (G : Gh) (H : Hp) (G' : Gh) (H' : Hp) : Prop where
  h0 : G'.H0 = G.H0
  p : G'.P = G.P
  n : ∀ a o, G.N a = some o → G'.N a = some o
  t : TupLe H H'
  w : Wf G' H'
theorem Ext.le {G G' : Gh} {H H' : Hp} (e : Ext G H G' H') : Le G H G' H' := ⟨e.h0, e.p, e.n, e.t, e.w⟩
theorem Le.tr {G G1 G2 : Gh} {H H1 H2 : Hp} (a : Le G H G1 H1) (b : Le G1 H1 G2 H2) : Le G H G2 H2 := ⟨b.h0.trans a.h0, b.p.trans a.p, fun c o h => b.n c o (a.n c o h), a.t.tr b.t, b.w⟩
theorem Le.rgl {G G' : Gh} {H H' : Hp} (e : Le G H G' H') (fr : Bool) : RgLe (rg G fr) (rg G' fr) := fun a o h => by
  cases fr with
  | true => exact e.n a o h
  | false =>
    rcases h with h | ⟨h1, h2⟩
    · exact .inl (e.n a o h)
    · exact .inr ⟨by rw [e.h0]; exact h1, by rw [e.p]; exact h2⟩
theorem Le.dna {K : PySem.W.Frag} {G G' : Gh} {H H' : Hp} {fr : Bool} {v : List V} {d : List PyData} (e : Le G H G' H') (h : DnA K (rg G fr) H v d) : DnA K (rg G' fr) H' v d := h.mono (e.rgl fr) e.t
/-- a cell of another kind: what holds of it, by its footprint -/
structure AbsC where
  ok : PySem.W.Frag → Hp → V → List Addr → Prop
  mono : ∀ K H H' v fp, ok K H v fp → (∀ a ∈ fp, H' a = H a) → TupLe H H' → ok K H' v fp
inductive Cl where
  | lst (ds : List PyData)
  | abs (a : AbsC)
def Cl.ok (K : PySem.W.Frag) (G : Rg) (H : Hp) (v : V) (fp : List Addr) : Cl → Prop
  | .lst ds => ∃ p vs, v = .ref p ∧ fp = [p] ∧ H p = some (.lst vs) ∧ DnA K G H vs ds
  | .abs a => a.ok K H v fp
theorem Cl.mono {K : PySem.W.Frag} {G G' : Rg} {H H' : Hp} {v : V} {fp : List Addr} {c : Cl} (h : c.ok K G H v fp) (g : RgLe G G') (k : ∀ a ∈ fp, H' a = H a) (t : TupLe H H') : c.ok K G' H' v fp := by
  cases c with
  | lst ds =>
    obtain ⟨p, vs, rfl, rfl, h1, h2⟩ := h
    exact ⟨p, vs, rfl, rfl, by rw [k p (by simp)]; exact h1, h2.mono g t⟩
  | abs a => exact a.mono K H H' v fp h k t
inductive Sl where
  | un
  | dat (fr : Bool) (d : PyData)
  | own (c : Cl)
  | io (c : Cl)
def SlOk (K : PySem.W.Frag) (G : Gh) (H : Hp) (i : Nat) (ov : Option (Option V)) (fp : List Addr) : Sl → Prop
  | .un => fp = []
  | .dat fr d => fp = [] ∧ ∃ v, ov = some (some v) ∧ Dn K (rg G fr) H v d
  | .own c => ∃ v, ov = some (some v) ∧ (∀ p ∈ fp, G.H0 p = none) ∧ c.ok K (RgN G) H v fp
  | .io c => ∃ v, ov = some (some v) ∧ G.I i = some v ∧ c.ok K (RgN G) H v fp
theorem SlOk.mono {K : PySem.W.Frag} {G G' : Gh} {H H' : Hp} {i : Nat} {ov : Option (Option V)} {fp : List Addr} {s : Sl} (h : SlOk K G H i ov fp s) (e : Ext G H G' H') (k : ∀ a ∈ fp, H' a = H a) : SlOk K G' H' i ov fp s := by
  cases s with
  | un => exact h
  | dat fr d =>
    obtain ⟨h1, v, h2, h3⟩ := h
    exact ⟨h1, v, h2, e.dn h3⟩
  | own c =>
    obtain ⟨v, h2, h4, h3⟩ := h
    exact ⟨v, h2, fun p hp => by rw [e.h0]; exact h4 p hp, Cl.mono h3 e.n k e.t⟩
  | io c =>
    obtain ⟨v, h2, h4, h3⟩ := h
    exact ⟨v, h2, by rw [e.i]; exact h4, Cl.mono h3 e.n k e.t⟩
/-- A: the footprints by slot -/
structure StaA (K : PySem.W.Frag) (G : Gh) (H : Hp) (σ : St) (Γ : List Sl) (A : Nat → List Addr) : Prop where
  w : Wf G H
  len : Γ.length = σ.length
  sl : ∀ i s, Γ[i]? = some s → SlOk K G H i σ[i]? (A i) s
  al : ∀ i p, p ∈ A i → H p ≠ none ∧ G.N p = none ∧ (p ∈ G.P ∨ G.H0 p = none)
  ae : ∀ i p, p ∈ A i → G.E p = none
  dj : ∀ i j p, p ∈ A i → p ∈ A j → i = j
def Sta (K : PySem.W.Frag) (G : Gh) (H : Hp) (σ : St) (Γ : List Sl) : Prop := ∃ A, StaA K G H σ Γ A
theorem Sta.w {K : PySem.W.Frag} {G : Gh} {H : Hp} {σ : St} {Γ : List Sl} (s : Sta K G H σ Γ) : Wf G H := s.elim fun _ a => a.w

/-- how the heap may go on: fs are the addresses that change -/
structure Grow (G : Gh) (H : Hp) (N' H' : Hp) (fs : List Addr) : Prop where
  k : ∀ a o, H a = some o → a ∉ fs → H' a = some o
  al : ∀ a, a ∈ fs → H' a ≠ none
  t : TupLe H H'
  n : ∀ a o, G.N a = some o → N' a = some o
  n' : ∀ a o, N' a = some o → H' a = some o ∧ (G.N a = some o ∨ H a = none)
theorem Grow.wf {G : Gh} {H N' H' : Hp} {fs : List Addr} (g : Grow G H N' H' fs) (w : Wf G H) (hf : ∀ p ∈ fs, p ∈ G.P ∨ G.H0 p = none) (he : ∀ p ∈ fs, G.E p = none) : Wf ⟨G.H0, G.P, G.I, N', G.E⟩ H' := by
  have al : ∀ a, H a ≠ none → H' a ≠ none := fun a h => by
    by_cases hp : a ∈ fs
    · exact g.al a hp
    · cases q : H a with
      | none => exact absurd q h
      | some o => rw [g.k a o q hp]; simp
  refine ⟨fun a o h h2 => ?_, fun a o h => ?_, fun a h => al a (w.pal a h), w.p0, fun a o h => ?_⟩
  · refine g.k a o (w.keep a o h h2) fun hp => ?_
    rcases hf a hp with z | z
    · exact h2 z
    · rw [show G.H0 a = some o from h] at z; cases z
  · obtain ⟨h1, h2⟩ := g.n' a o h
    refine ⟨h1, ?_⟩
    rcases h2 with h2 | h2
    · exact (w.new a o h2).2
    · show G.H0 a = none
      cases q : G.H0 a with
      | none => rfl
      | some u =>
        by_cases hp : a ∈ G.P
        · exact absurd h2 (w.pal a hp)
        · rw [w.keep a u q hp] at h2; cases h2
  · obtain ⟨h1, h2, h3⟩ := w.ex a o h
    refine ⟨g.k a o h1 fun hp => ?_, ?_, h3⟩
    · have h : G.E a = some o := h
      rw [he a hp] at h; cases h
    · show N' a = none
      cases q : N' a with
      | none => rfl
      | some u =>
        rcases (g.n' a u q).2 with z | z
        · rw [h2] at z; cases z
        · rw [h1] at z; cases z
theorem Grow.ext {G : Gh} {H N' H' : Hp} {fs : List Addr} (g : Grow G H N' H' fs) (w : Wf G H) (hf : ∀ p ∈ fs, p ∈ G.P ∨ G.H0 p = none) (he : ∀ p ∈ fs, G.E p = none) : Ext G H ⟨G.H0, G.P, G.I, N', G.E⟩ H' :=
  ⟨rfl, rfl, rfl, rfl, g.n, g.t, g.wf w hf he⟩
theorem Grow.at {G : Gh} {H N' H' : Hp} {fs : List Addr} (g : Grow G H N' H' fs) {a : Addr} (h : H a ≠ none) (hp : a ∉ fs) : H' a = H a := by
  cases q : H a with
  | none => exact absurd q h
  | some o => exact g.k a o q hp
/-- nothing of the slots changes -/
theorem Sta.grow {K : PySem.W.Frag} {G : Gh} {H H' N' : Hp} {σ : St} {Γ : List Sl} (s : Sta K G H σ Γ) (g : Grow G H N' H' []) :
    Sta K ⟨G.H0, G.P, G.I, N', G.E⟩ H' σ Γ ∧ Ext G H ⟨G.H0, G.P, G.I, N', G.E⟩ H' := by
  obtain ⟨A, S⟩ := s
  have e := g.ext S.w (fun p hp => absurd hp (by simp)) (fun p hp => absurd hp (by simp))
  refine ⟨⟨A, e.w, S.len, fun i s h => (S.sl i s h).mono e fun a ha => g.at (S.al i a ha).1 (by simp), fun i p hp => ?_, S.ae, S.dj⟩, e⟩
  obtain ⟨h1, h2, h3⟩ := S.al i p hp
  refine ⟨by rw [g.at h1 (by simp)]; exact h1, ?_, h3⟩
  show N' p = none
  cases q : N' p with
  | none => rfl
  | some o =>
    rcases (g.n' p o q).2 with z | z
    · rw [h2] at z; cases z
    · exact absurd z h1
/-- one slot changes: its value, or its cell -/
theorem StaA.step {K : PySem.W.Frag} {G : Gh} {H H' N' : Hp} {σ σ' : St} {Γ : List Sl} {A : Nat → List Addr} {i : Nat} {s' : Sl} {fp' fs : List Addr} (S : StaA K G H σ Γ A) (g : Grow G H N' H' fs)
    (hfs : ∀ p ∈ fs, p ∈ A i) (hσ : ∀ j, j ≠ i → σ'[j]? = σ[j]?) (hl : σ'.length = σ.length) (sl' : i < Γ.length → SlOk K ⟨G.H0, G.P, G.I, N', G.E⟩ H' i σ'[i]? fp' s')
    (f : ∀ p ∈ fp', H' p ≠ none ∧ N' p = none ∧ (p ∈ A i ∨ H p = none)) :
    Sta K ⟨G.H0, G.P, G.I, N', G.E⟩ H' σ' (Γ.set i s') ∧ Ext G H ⟨G.H0, G.P, G.I, N', G.E⟩ H' := by
  have hf : ∀ p ∈ fs, p ∈ G.P ∨ G.H0 p = none := fun p hp => (S.al i p (hfs p hp)).2.2
  have he : ∀ p ∈ fs, G.E p = none := fun p hp => S.ae i p (hfs p hp)
  have e := g.ext S.w hf he
  have nf : ∀ j, j ≠ i → ∀ p, p ∈ A j → p ∉ fs := fun j hj p hp hq => hj (S.dj j i p hp (hfs p hq))
  refine ⟨⟨fun j => if j = i then fp' else A j, e.w, by rw [List.length_set, hl]; exact S.len, fun j s h => ?_, fun j p hp => ?_, fun j p hp => ?_, fun j k p hj hk => ?_⟩, e⟩
  · by_cases hj : j = i
    · subst hj
      have hlt : j < Γ.length := by
        have := (List.getElem?_eq_some_iff.mp h).1
        simpa using this
      rw [List.getElem?_set_self hlt] at h
      cases h
      rw [if_pos rfl]
      exact sl' hlt
    · rw [List.getElem?_set_ne (Ne.symm hj)] at h
      rw [if_neg hj, hσ j hj]
      exact (S.sl j s h).mono e fun a ha => g.at (S.al j a ha).1 (nf j hj a ha)
  · by_cases hj : j = i
    · rw [if_pos hj] at hp
      obtain ⟨h1, h2, h3⟩ := f p hp
      refine ⟨h1, h2, ?_⟩
      rcases h3 with z | z
      · exact (S.al i p z).2.2
      · by_cases q : p ∈ G.P
        · exact .inl q
        · refine .inr ?_
          show G.H0 p = none
          cases r : G.H0 p with
          | none => rfl
          | some u => rw [S.w.keep p u r q] at z; cases z
    · rw [if_neg hj] at hp
      obtain ⟨h1, h2, h3⟩ := S.al j p hp
      refine ⟨by rw [g.at h1 (nf j hj p hp)]; exact h1, ?_, h3⟩
      show N' p = none
      cases q : N' p with
      | none => rfl
      | some o =>
        rcases (g.n' p o q).2 with z | z
        · rw [h2] at z; cases z
        · exact absurd z h1
  · show G.E p = none
    by_cases hj : j = i
    · rw [if_pos hj] at hp
      rcases (f p hp).2.2 with z | z
      · exact S.ae i p z
      · cases q : G.E p with
        | none => rfl
        | some u => rw [(S.w.ex p u q).1] at z; cases z
    · rw [if_neg hj] at hp
      exact S.ae j p hp
  · have key : ∀ j', j' ≠ i → p ∈ A j' → p ∈ fp' → False := fun j' hj' h1 h2 => by
      rcases (f p h2).2.2 with z | z
      · exact hj' (S.dj j' i p h1 z)
      · exact (S.al j' p h1).1 z
    by_cases hj' : j = i
    · by_cases hk' : k = i
      · rw [hj', hk']
      · rw [if_pos hj'] at hj
        rw [if_neg hk'] at hk
        exact (key k hk' hk hj).elim
    · by_cases hk' : k = i
      · rw [if_neg hj'] at hj
        rw [if_pos hk'] at hk
        exact (key j hj' hj hk).elim
      · rw [if_neg hj'] at hj
        rw [if_neg hk'] at hk
        exact S.dj j k p hj hk
theorem grow0 {G : Gh} {H : Hp} (w : Wf G H) : Grow G H G.N H [] := ⟨fun _ _ h _ => h, fun _ h => absurd h (by simp), TupLe.rf _, fun _ _ h => h, fun a o h => ⟨(w.new a o h).1, .inl h⟩⟩
theorem same_upd {H : Hp} {p : Addr} {o : HO} (h : H p = none) : Same H (upd H p o) := fun b x e => by
  rw [upd_ne (ne_of_none e h)]
  exact e
theorem tup_upd {H : Hp} {p : Addr} {o : HO} (h : H p = none) : TupLe H (upd H p o) := fun b x e => by
  rcases e with e | ⟨u, e⟩
  · exact .inl (same_upd h _ _ e)
  · exact .inr ⟨u, same_upd h _ _ e⟩
/-- a new thing that is frozen at once -/
theorem grow_new {G : Gh} {H : Hp} {p : Addr} {o : HO} (w : Wf G H) (h : H p = none) : Grow G H (upd G.N p o) (upd H p o) [] := by
  have hN : G.N p = none := by
    cases q : G.N p with
    | none => rfl
    | some u => rw [(w.new p u q).1] at h; cases h
  refine ⟨fun a u e _ => same_upd h a u e, fun _ h => absurd h (by simp), tup_upd h, fun a u e => same_upd hN a u e, fun a u e => ?_⟩
  by_cases ha : a = p
  · subst ha
    rw [upd_same] at e
    rw [upd_same]
    exact ⟨e, .inr h⟩
  · rw [upd_ne ha] at e
    rw [upd_ne ha]
    exact ⟨(w.new a u e).1, .inl e⟩
/-- a new thing that is not frozen -/
theorem grow_own {G : Gh} {H : Hp} {p : Addr} {o : HO} (w : Wf G H) (h : H p = none) : Grow G H G.N (upd H p o) [] :=
  ⟨fun a u e _ => same_upd h a u e, fun _ h => absurd h (by simp), tup_upd h, fun _ _ e => e, fun a u e => ⟨same_upd h a u (w.new a u e).1, .inl e⟩⟩
/-- a thing changes -/
theorem grow_mut {G : Gh} {H : Hp} {p : Addr} {o u : HO} (w : Wf G H) (h : H p = some u) (hN : G.N p = none) (ht : ∀ xs, u ≠ .tup xs) (hz : ∀ x y, u ≠ .frz x y) : Grow G H G.N (upd H p o) [p] := by
  refine ⟨fun a x e hp => by rw [upd_ne (by simpa using hp)]; exact e, fun a ha => ?_, fun a xs e => ?_, fun _ _ e => e, fun a x e => ⟨?_, .inl e⟩⟩
  · have : a = p := by simpa using ha
    rw [this, upd_same]; simp
  · rcases e with e | ⟨y, e⟩
    · by_cases q : a = p
      · subst q; rw [h] at e; exact absurd (Option.some.inj e) (ht _)
      · exact .inl (by rw [upd_ne q]; exact e)
    · by_cases q : a = p
      · subst q; rw [h] at e; exact absurd (Option.some.inj e) (hz _ _)
      · exact .inr ⟨y, by rw [upd_ne q]; exact e⟩
  · rw [upd_ne (fun q => by rw [q, hN] at e; cases e)]
    exact (w.new a x e).1
theorem set_at {α : Type} {l : List α} {i : Nat} {x : α} (h : i < l.length) : (l.set i x)[i]? = some x := List.getElem?_set_self h
/-- a new address is no old one's -/
theorem Wf.fresh {G : Gh} {H : Hp} {p : Addr} (w : Wf G H) (hp : H p = none) : G.N p = none ∧ G.H0 p = none ∧ p ∉ G.P := by
  have h3 : p ∉ G.P := fun z => w.pal p z hp
  refine ⟨?_, ?_, h3⟩
  · cases q : G.N p with
    | none => rfl
    | some u => rw [(w.new p u q).1] at hp; cases hp
  · cases q : G.H0 p with
    | none => rfl
    | some u => rw [w.keep p u q h3] at hp; cases hp
/-- a slot gets data -/
theorem Sta.put {K : PySem.W.Frag} {G : Gh} {H : Hp} {σ : St} {Γ : List Sl} {fr : Bool} {d : PyData} {v : V} (s : Sta K G H σ Γ) (i : Nat) (h : Dn K (rg G fr) H v d) :
    Sta K G H (σ.set i (some v)) (Γ.set i (.dat fr d)) := by
  obtain ⟨A, S⟩ := s
  refine (S.step (i := i) (fp' := []) (s' := .dat fr d) (σ' := σ.set i (some v)) (grow0 S.w) (fun p hp => absurd hp (by simp)) (fun j hj => List.getElem?_set_ne (Ne.symm hj)) (List.length_set ..) (fun hlt => ⟨rfl, v, ?_, h⟩) (fun p hp => absurd hp (by simp))).1
  exact set_at (by rw [← S.len]; exact hlt)
/-- a slot gets a new list of its own -/
theorem Sta.putOwn {K : PySem.W.Frag} {G : Gh} {H : Hp} {σ : St} {Γ : List Sl} {p : Addr} {vs : List V} {ds : List PyData} (s : Sta K G H σ Γ) (i : Nat) (hp : H p = none) (h : DnA K (rg G true) H vs ds) :
    Sta K G (upd H p (.lst vs)) (σ.set i (some (.ref p))) (Γ.set i (.own (.lst ds))) ∧ Ext G H G (upd H p (.lst vs)) := by
  obtain ⟨A, S⟩ := s
  obtain ⟨hN, h0, _⟩ := S.w.fresh hp
  refine S.step (i := i) (fp' := [p]) (grow_own S.w hp) (fun p hp => absurd hp (by simp)) (fun j hj => List.getElem?_set_ne (Ne.symm hj)) (List.length_set ..) (fun hlt => ⟨.ref p, ?_, fun q hq => ?_, p, vs, rfl, rfl, upd_same, h.mono (fun _ _ z => z) (tup_upd hp)⟩) (fun q hq => ?_)
  · exact set_at (by rw [← S.len]; exact hlt)
  · have : q = p := by simpa using hq
    subst this
    exact h0
  · have : q = p := by simpa using hq
    subst this
    exact ⟨by rw [upd_same]; simp, hN, .inr hp⟩
/-- slots forgotten -/
theorem Sta.forget {K : PySem.W.Frag} {G : Gh} {H : Hp} {σ : St} {Γ : List Sl} (s : Sta K G H σ Γ) (i : Nat) : Sta K G H σ (Γ.set i .un) := by
  obtain ⟨A, S⟩ := s
  exact (S.step (i := i) (fp' := []) (s' := .un) (σ' := σ) (grow0 S.w) (fun p hp => absurd hp (by simp)) (fun j hj => rfl) rfl (fun hlt => rfl) (fun p hp => absurd hp (by simp))).1
/-- a list of one's own is frozen -/
theorem Sta.freeze {K : PySem.W.Frag} {G : Gh} {H : Hp} {σ : St} {Γ : List Sl} {ds : List PyData} (s : Sta K G H σ Γ) (i : Nat) (hi : Γ[i]? = some (.own (.lst ds))) :
    ∃ G', Sta K G' H σ (Γ.set i (.dat true (.list ds))) ∧ Ext G H G' H := by
  obtain ⟨A, S⟩ := s
  obtain ⟨v, h1, h0, p, vs, rfl, hfp, hp, hd⟩ := S.sl i _ hi
  have hpA : p ∈ A i := by rw [hfp]; simp
  have hN : G.N p = none := (S.al i p hpA).2.1
  have h00 : G.H0 p = none := h0 p hpA
  have n1 : ∀ a o, G.N a = some o → upd G.N p (.lst vs) a = some o := fun a o e => same_upd hN a o e
  have hE : ∀ a o, G.E a = some o → upd G.N p (.lst vs) a = none := fun a o ha => by
    have z : a ≠ p := fun z => by
      have q := S.ae i p hpA
      rw [z, q] at ha
      cases ha
    rw [upd_ne z]
    exact (S.w.ex a o ha).2.1
  have e : Ext G H ⟨G.H0, G.P, G.I, upd G.N p (.lst vs), G.E⟩ H := by
    refine ⟨rfl, rfl, rfl, rfl, n1, TupLe.rf _, S.w.keep, fun a o ha => ?_, S.w.pal, S.w.p0, fun a o ha => ⟨(S.w.ex a o ha).1, hE a o ha, (S.w.ex a o ha).2.2⟩⟩
    have ha : upd G.N p (.lst vs) a = some o := ha
    by_cases q : a = p
    · subst q
      rw [upd_same] at ha
      cases ha
      exact ⟨hp, h00⟩
    · rw [upd_ne q] at ha
      exact S.w.new a o ha
  refine ⟨_, ⟨fun j => if j = i then [] else A j, e.w, by rw [List.length_set]; exact S.len, fun j s h => ?_, fun j q hq => ?_, fun j q hq => ?_, fun j k q hj hk => ?_⟩, e⟩
  · by_cases hj : j = i
    · subst hj
      rw [List.getElem?_set_self (List.getElem?_eq_some_iff.mp hi).1] at h
      cases h
      rw [if_pos rfl]
      exact ⟨rfl, .ref p, h1, .lst (.inl upd_same) (hd.mono n1 (TupLe.rf _))⟩
    · rw [List.getElem?_set_ne (Ne.symm hj)] at h
      rw [if_neg hj]
      exact (S.sl j s h).mono e fun a ha => rfl
  · by_cases hj : j = i
    · rw [if_pos hj] at hq; cases hq
    · rw [if_neg hj] at hq
      obtain ⟨h2, h3, h4⟩ := S.al j q hq
      refine ⟨h2, ?_, h4⟩
      show upd G.N p (.lst vs) q = none
      rw [upd_ne (fun z => hj (S.dj j i q hq (by rw [z]; exact hpA)))]
      exact h3
  · by_cases hj : j = i
    · rw [if_pos hj] at hq; cases hq
    · rw [if_neg hj] at hq
      exact S.ae j q hq
  · by_cases hj' : j = i
    · rw [if_pos hj'] at hj; cases hj
    · by_cases hk' : k = i
      · rw [if_pos hk'] at hk; cases hk
      · rw [if_neg hj'] at hj
        rw [if_neg hk'] at hk
        exact S.dj j k q hj hk
/-- a list of one's own changes -/
theorem Sta.change {K : PySem.W.Frag} {G : Gh} {H : Hp} {σ : St} {Γ : List Sl} {ds : List PyData} (s : Sta K G H σ Γ) (i : Nat) (hi : Γ[i]? = some (.own (.lst ds))) :
    ∃ p vs, σ[i]? = some (some (.ref p)) ∧ H p = some (.lst vs) ∧ DnA K (rg G true) H vs ds ∧
      ∀ vs' ds', DnA K (rg G true) H vs' ds' → Sta K G (upd H p (.lst vs')) σ (Γ.set i (.own (.lst ds'))) ∧ Ext G H G (upd H p (.lst vs')) := by
  obtain ⟨A, S⟩ := s
  obtain ⟨v, h1, h0, p, vs, rfl, hfp, hp, hd⟩ := S.sl i _ hi
  have hpA : p ∈ A i := by rw [hfp]; simp
  have hN : G.N p = none := (S.al i p hpA).2.1
  refine ⟨p, vs, h1, hp, hd, fun vs' ds' hd' => ?_⟩
  have g : Grow G H G.N (upd H p (.lst vs')) [p] := grow_mut S.w hp hN (fun xs z => by cases z) (fun x y z => by cases z)
  refine S.step (i := i) (fp' := [p]) (s' := .own (.lst ds')) (σ' := σ) g (fun q hq => ?_) (fun j hj => rfl) rfl (fun hlt => ⟨.ref p, h1, fun q hq => ?_, p, vs', rfl, rfl, upd_same, hd'.mono (fun _ _ z => z) g.t⟩) (fun q hq => ?_)
  · have : q = p := by simpa using hq
    rw [this]; exact hpA
  · have : q = p := by simpa using hq
    rw [this]; exact h0 p hpA
  · have : q = p := by simpa using hq
    rw [this]
    exact ⟨by rw [upd_same]; simp, hN, .inl hpA⟩
/-- the same of a list handed in -/
theorem Sta.changeIo {K : PySem.W.Frag} {G : Gh} {H : Hp} {σ : St} {Γ : List Sl} {ds : List PyData} (s : Sta K G H σ Γ) (i : Nat) (hi : Γ[i]? = some (.io (.lst ds))) :
    ∃ p vs, σ[i]? = some (some (.ref p)) ∧ H p = some (.lst vs) ∧ DnA K (rg G true) H vs ds ∧
      ∀ vs' ds', DnA K (rg G true) H vs' ds' → Sta K G (upd H p (.lst vs')) σ (Γ.set i (.io (.lst ds'))) ∧ Ext G H G (upd H p (.lst vs')) := by
  obtain ⟨A, S⟩ := s
  obtain ⟨v, h1, h0, p, vs, rfl, hfp, hp, hd⟩ := S.sl i _ hi
  have hpA : p ∈ A i := by rw [hfp]; simp
  have hN : G.N p = none := (S.al i p hpA).2.1
  refine ⟨p, vs, h1, hp, hd, fun vs' ds' hd' => ?_⟩
  have g : Grow G H G.N (upd H p (.lst vs')) [p] := grow_mut S.w hp hN (fun xs z => by cases z) (fun x y z => by cases z)
  refine S.step (i := i) (fp' := [p]) (s' := .io (.lst ds')) (σ' := σ) g (fun q hq => ?_) (fun j hj => rfl) rfl (fun hlt => ⟨.ref p, h1, h0, p, vs', rfl, rfl, upd_same, hd'.mono (fun _ _ z => z) g.t⟩) (fun q hq => ?_)
  · have : q = p := by simpa using hq
    rw [this]; exact hpA
  · have : q = p := by simpa using hq
    rw [this]
    exact ⟨by rw [upd_same]; simp, hN, .inl hpA⟩
/-! ## things beside the slots -/
theorem Sta.pin {K : PySem.W.Frag} {G : Gh} {H : Hp} {σ : St} {Γ : List Sl} {D : Addr} {o : HO} (S : Sta K G H σ Γ) (hD : H D = none) : Sta K ⟨G.H0, G.P, G.I, G.N, upd G.E D o⟩ (upd H D o) σ Γ ∧ TupLe H (upd H D o) := by
  obtain ⟨A, S⟩ := S
  obtain ⟨f1, f2, f3⟩ := S.w.fresh hD
  have t := tup_upd (o := o) hD
  have nA : ∀ i, D ∉ A i := fun i h => (S.al i D h).1 hD
  have w : Wf ⟨G.H0, G.P, G.I, G.N, upd G.E D o⟩ (upd H D o) := by
    refine ⟨fun a u h h2 => same_upd hD _ _ (S.w.keep a u h h2), fun a u h => ⟨same_upd hD _ _ (S.w.new a u h).1, (S.w.new a u h).2⟩, fun a h => ?_, S.w.p0, fun a u h => ?_⟩
    · rw [upd_ne (show a ≠ D from fun z => f3 (z ▸ h))]
      exact S.w.pal a h
    · by_cases q : a = D
      · subst q
        have h : upd G.E a o a = some u := h
        rw [upd_same] at h ⊢
        exact ⟨h, f1, f2, f3⟩
      · have h : upd G.E D o a = some u := h
        rw [upd_ne q] at h ⊢
        exact S.w.ex a u h
  refine ⟨⟨A, w, S.len, fun i s h => ?_, fun i p h => ⟨?_, (S.al i p h).2⟩, fun i p h => ?_, S.dj⟩, t⟩
  · have q := S.sl i s h
    cases s with
    | un => exact q
    | dat fr d =>
      obtain ⟨q1, v, q2, q3⟩ := q
      exact ⟨q1, v, q2, q3.mono (fun a o z => by cases fr <;> exact z) t⟩
    | own c =>
      obtain ⟨v, q2, q4, q3⟩ := q
      exact ⟨v, q2, q4, Cl.mono q3 (fun a o z => z) (fun a ha => upd_ne (fun z => nA i (z ▸ ha))) t⟩
    | io c =>
      obtain ⟨v, q2, q4, q3⟩ := q
      exact ⟨v, q2, q4, Cl.mono q3 (fun a o z => z) (fun a ha => upd_ne (fun z => nA i (z ▸ ha))) t⟩
  · rw [upd_ne (show p ≠ D from fun z => nA i (z ▸ h))]
    exact (S.al i p h).1
  · show upd G.E D o p = none
    rw [upd_ne (show p ≠ D from fun z => nA i (z ▸ h))]
    exact S.ae i p h
/-- what lies beside is taken away -/
def del (H : Hp) (D : Addr) : Hp := fun b => if b = D then none else H b
theorem del_ne {H : Hp} {D b : Addr} (h : b ≠ D) : PD.del H D b = H b := by unfold PD.del; rw [if_neg h]
theorem del_same {H : Hp} {D : Addr} : PD.del H D D = none := by unfold PD.del; rw [if_pos rfl]
theorem del_upd {H : Hp} {D : Addr} {o : HO} (h : H D = some o) : upd (PD.del H D) D o = H := by
  funext b
  by_cases q : b = D
  · subst q; rw [upd_same, h]
  · rw [upd_ne q, del_ne q]
theorem Sta.unpin {K : PySem.W.Frag} {G : Gh} {H : Hp} {σ : St} {Γ : List Sl} {D : Addr} {o : HO} {E0 : Hp} (S : Sta K G H σ Γ) (hE : G.E = upd E0 D o) (h0 : E0 D = none) (ho : ∀ xs, o ≠ .tup xs) (hz : ∀ x y, o ≠ .frz x y) : Sta K ⟨G.H0, G.P, G.I, G.N, E0⟩ (PD.del H D) σ Γ ∧ H D = some o ∧ TupLe H (PD.del H D) := by
  obtain ⟨A, S⟩ := S
  have eD : G.E D = some o := by rw [hE, upd_same]
  obtain ⟨g1, g2, g3, g4⟩ := S.w.ex D o eD
  have nA : ∀ i, D ∉ A i := fun i h => by
    have := S.ae i D h
    rw [eD] at this; cases this
  have t : TupLe H (PD.del H D) := fun a xs h => by
    rcases h with h | ⟨u, h⟩
    · exact .inl (by rw [del_ne (fun z => by rw [z, g1] at h; exact ho xs (Option.some.inj h))]; exact h)
    · exact .inr ⟨u, by rw [del_ne (fun z => by rw [z, g1] at h; exact hz _ _ (Option.some.inj h))]; exact h⟩
  have nD : ∀ a u, G.N a = some u → a ≠ D := fun a u h z => by rw [z, g2] at h; cases h
  have w : Wf ⟨G.H0, G.P, G.I, G.N, E0⟩ (PD.del H D) := by
    refine ⟨fun a u h h2 => ?_, fun a u h => ?_, fun a h => ?_, S.w.p0, fun a u h => ?_⟩
    · rw [del_ne (fun z => by rw [z] at h; rw [show G.H0 D = some u from h] at g3; cases g3)]
      exact S.w.keep a u h h2
    · rw [del_ne (nD a u h)]
      exact S.w.new a u h
    · rw [del_ne (show a ≠ D from fun z => g4 (z ▸ h))]
      exact S.w.pal a h
    · have h : E0 a = some u := h
      have q : a ≠ D := fun z => by rw [z, h0] at h; cases h
      rw [del_ne q]
      exact S.w.ex a u (by rw [hE, upd_ne q]; exact h)
  refine ⟨⟨A, w, S.len, fun i s h => ?_, fun i p h => ⟨?_, (S.al i p h).2⟩, fun i p h => ?_, S.dj⟩, g1, t⟩
  · have q := S.sl i s h
    cases s with
    | un => exact q
    | dat fr d =>
      obtain ⟨q1, v, q2, q3⟩ := q
      exact ⟨q1, v, q2, q3.mono (fun a o z => by cases fr <;> exact z) t⟩
    | own c =>
      obtain ⟨v, q2, q4, q3⟩ := q
      exact ⟨v, q2, q4, Cl.mono q3 (fun a o z => z) (fun a ha => del_ne (fun z => nA i (z ▸ ha))) t⟩
    | io c =>
      obtain ⟨v, q2, q4, q3⟩ := q
      exact ⟨v, q2, q4, Cl.mono q3 (fun a o z => z) (fun a ha => del_ne (fun z => nA i (z ▸ ha))) t⟩
  · rw [del_ne (show p ≠ D from fun z => nA i (z ▸ h))]
    exact (S.al i p h).1
  · show E0 p = none
    have := S.ae i p h
    rw [hE, upd_ne (show p ≠ D from fun z => nA i (z ▸ h))] at this
    exact this
/-- the frame's slots forgotten, the values too -/
theorem Sta.blank {K : PySem.W.Frag} {G : Gh} {H : Hp} {σ : St} {Γ : List Sl} (s : Sta K G H σ Γ) (i : Nat) (o : Option V) : Sta K G H (σ.set i o) (Γ.set i .un) := by
  obtain ⟨A, S⟩ := s
  exact (S.step (i := i) (fp' := []) (s' := .un) (σ' := σ.set i o) (grow0 S.w) (fun p hp => absurd hp (by simp)) (fun j hj => List.getElem?_set_ne (Ne.symm hj)) (List.length_set ..) (fun hlt => rfl) (fun p hp => absurd hp (by simp))).1
/-- slots that are not known may hold anything -/
theorem Sta.swap {K : PySem.W.Frag} {G : Gh} {H : Hp} {σ σ' : St} {Γ : List Sl} (s : Sta K G H σ Γ) (hl : σ'.length = σ.length) (h : ∀ i : Nat, σ'[i]? = σ[i]? ∨ Γ[i]? = some Sl.un) : Sta K G H σ' Γ := by
  obtain ⟨A, S⟩ := s
  refine ⟨A, S.w, by rw [hl]; exact S.len, fun i sl e => ?_, S.al, S.ae, S.dj⟩
  rcases h i with q | q
  · rw [q]; exact S.sl i sl e
  · rw [q] at e
    cases e
    exact S.sl i .un q
end PD


set_option Elab.async false
set_option linter.all false
set_option maxRecDepth 100000
set_option maxHeartbeats 4000000
namespace PD
open PySem L2
/-! ## judgements -/
/-- what an expression's value stands for: data; the cell of a slot -/
inductive AV where
  | d (fr : Bool) (d : PyData)
  | s (i : Nat)
def AVok (K : PySem.W.Frag) (G : Gh) (H : Hp) (σ : St) (v : V) : AV → Prop
  | .d fr d => Dn K (rg G fr) H v d
  | .s i => σ[i]? = some (some v)
theorem AVok.ext {K : PySem.W.Frag} {G G' : Gh} {H H' : Hp} {σ : St} {v : V} {a : AV} (h : AVok K G H σ v a) (e : Ext G H G' H') : AVok K G' H' σ v a := by
  cases a with
  | d fr d => exact e.dn h
  | s i => exact h
def FldsOk (K : PySem.W.Frag) (G : Rg) (H : Hp) (fs : List (Str × V)) (flds : List (Str × PyData)) : Prop := fs.map (·.1) = flds.map (·.1) ∧ DnA K G H (fs.map (·.2)) (flds.map (·.2))
/-- what is wanted where an exception leaves -/
def XW (X : Cx) (W : WX) (G : Gh) (H : Hp) (σ : St) (x : Exn) : Prop :=
  ∀ G' H' C d fs, Ext G H G' H' → X.mg x.cls = some (.ref C) → H' d = some (.xd fs) → FldsOk X.K (rg G' true) H' fs x.flds → W (.ref C) (some d) σ H'
theorem XW.ext {X : Cx} {W : WX} {G G' : Gh} {H H' : Hp} {σ : St} {x : Exn} (h : XW X W G H σ x) (e : Ext G H G' H') : XW X W G' H' σ x := fun G2 H2 C d fs e2 => h G2 H2 C d fs (e.tr e2)
/-- a result's meaning; P: what is to hold of a good one -/
def Pst (X : Cx) (W : WX) (G : Gh) (H : Hp) (σ : St) {τ : Type} (m : R τ) (P : τ → Gh → Hp → Prop) : Prop :=
  match m with
  | .bad => False
  | .exc x => XW X W G H σ x
  | .val r => ∀ G' H', Ext G H G' H' → P r G' H'
theorem Pst.ext {X : Cx} {W : WX} {G G' : Gh} {H H' : Hp} {σ : St} {τ : Type} {m : R τ} {P : τ → Gh → Hp → Prop} (h : Pst X W G H σ m P) (e : Ext G H G' H') : Pst X W G' H' σ m P := by
  cases m with
  | bad => exact h
  | exc x => exact XW.ext h e
  | val r => exact fun G2 H2 e2 => h G2 H2 (e.tr e2)
theorem Pst.imp {X : Cx} {W : WX} {G : Gh} {H : Hp} {σ : St} {τ : Type} {m : R τ} {P P' : τ → Gh → Hp → Prop} (h : Pst X W G H σ m P) (k : ∀ r G' H', Ext G H G' H' → P r G' H' → P' r G' H') : Pst X W G H σ m P' := by
  cases m with
  | bad => exact h
  | exc x => exact h
  | val r => exact fun G2 H2 e2 => k r G2 H2 e2 (h G2 H2 e2)
theorem Pst.impG {X : Cx} {W : WX} {G : Gh} {H : Hp} {σ : St} {τ : Type} {m : R τ} {P P' : τ → Gh → Hp → Prop} (h : Pst X W G H σ m P) (k : ∀ r G' H', Ext G H G' H' → (∀ G2 H2, Ext G' H' G2 H2 → P r G2 H2) → P' r G' H') : Pst X W G H σ m P' := by
  cases m with
  | bad => exact h
  | exc x => exact h
  | val r => exact fun G2 H2 e2 => k r G2 H2 e2 fun G3 H3 e3 => h G3 H3 (e2.tr e3)
theorem Pst.bind {X : Cx} {W : WX} {G : Gh} {H : Hp} {σ : St} {τ ρ : Type} {m : R τ} {k : τ → R ρ} {P : ρ → Gh → Hp → Prop} (h : Pst X W G H σ (m.bind k) P) : Pst X W G H σ m (fun r G' H' => Pst X W G' H' σ (k r) P) := by
  cases m with
  | bad => exact h
  | exc x => exact h
  | val r => exact fun G2 H2 e2 => Pst.ext h e2
section
variable (X : Cx) (W : WX) (Γ : List Sl)
def rdE {τ : Type} (m : R τ) (av : τ → AV) (Γ' : τ → List Sl) : TE := fun σ H Q => ∃ G, Sta X.K G H σ Γ ∧ Pst X W G H σ m fun r G' H' => ∀ v, Sta X.K G' H' σ (Γ' r) → AVok X.K G' H' σ v (av r) → Q v H'
def rdT {τ : Type} (m : R τ) (b : τ → Bool) (Γ' : τ → List Sl) : TT := fun σ H Q => ∃ G, Sta X.K G H σ Γ ∧ Pst X W G H σ m fun r G' H' => Sta X.K G' H' σ (Γ' r) → Q (b r) H'
/-- a new list, just made -/
def rdF {τ : Type} (m : R τ) (ds : τ → List PyData) (Γ' : τ → List Sl) : TE := fun σ H Q => ∃ G, Sta X.K G H σ Γ ∧ Pst X W G H σ m fun r G' H' => ∀ p vs, Sta X.K G' H' σ (Γ' r) → H' p = none → DnA X.K (rg G' true) H' vs (ds r) → Q (.ref p) (upd H' p (.lst vs))
inductive AVs (K : PySem.W.Frag) (G : Gh) (H : Hp) (σ : St) : List V → List AV → Prop
  | nil : AVs K G H σ [] []
  | cons {v : V} {vs : List V} {a : AV} {as : List AV} : AVok K G H σ v a → AVs K G H σ vs as → AVs K G H σ (v :: vs) (a :: as)
def rdA {τ : Type} (m : R τ) (as : τ → List AV) (Γ' : τ → List Sl) : TA := fun σ H Q => ∃ G, Sta X.K G H σ Γ ∧ Pst X W G H σ m fun r G' H' => ∀ vs, Sta X.K G' H' σ (Γ' r) → AVs X.K G' H' σ vs (as r) → Q vs H'
def Ev (e : Expr) {τ : Type} (m : R τ) (av : τ → AV) (Γ' : τ → List Sl) : Prop := PE X e (rdE X W Γ m av Γ')
def EvT (e : Expr) {τ : Type} (m : R τ) (b : τ → Bool) (Γ' : τ → List Sl) : Prop := PT X e (rdT X W Γ m b Γ')
def EvF (e : Expr) {τ : Type} (m : R τ) (ds : τ → List PyData) (Γ' : τ → List Sl) : Prop := PE X e (rdF X W Γ m ds Γ')
def EvA (es : List Expr) {τ : Type} (m : R τ) (as : τ → List AV) (Γ' : τ → List Sl) : Prop := PA X es (rdA X W Γ m as Γ')
abbrev EvP (e : Expr) (a : AV) : Prop := Ev X W Γ e (R.val ()) (fun _ => a) (fun _ => Γ)
abbrev EvTP (e : Expr) (b : Bool) : Prop := EvT X W Γ e (R.val ()) (fun _ => b) (fun _ => Γ)
end
theorem AVs.ext {K : PySem.W.Frag} {G G' : Gh} {H H' : Hp} {σ : St} (e : Ext G H G' H') : ∀ {vs : List V} {as : List AV}, AVs K G H σ vs as → AVs K G' H' σ vs as
  | _, _, .nil => .nil
  | _, _, .cons h a => .cons (h.ext e) (AVs.ext e a)
theorem pe_imp {X : Cx} {e : Expr} {t t' : TE} (h : PE X e t) (k : ∀ σ H Q, t' σ H Q → t σ H Q) : PE X e t' := ⟨fun pins s σ H Q I z => h.run pins s σ H Q I (k σ H Q z)⟩
theorem pt_imp {X : Cx} {e : Expr} {t t' : TT} (h : PT X e t) (k : ∀ σ H Q, t' σ H Q → t σ H Q) : PT X e t' := ⟨fun pins s σ H Q I z => h.run pins s σ H Q I (k σ H Q z)⟩
theorem pw_imp {X : Cx} {e : Expr} {t t' : TT} (h : PW X e t) (k : ∀ σ H Q, t' σ H Q → t σ H Q) : PW X e t' := ⟨fun w pins s σ H Q I z => h.run w pins s σ H Q I (k σ H Q z)⟩
theorem pa_imp {X : Cx} {es : List Expr} {t t' : TA} (h : PA X es t) (k : ∀ σ H Q, t' σ H Q → t σ H Q) : PA X es t' := ⟨fun pos pins s σ H Q I z => h.run pos pins s σ H Q I (k σ H Q z)⟩
theorem pe_any {X : Cx} {e : Expr} {α : Type} {t : α → TE} (h : ∀ x, PE X e (t x)) : PE X e (fun σ H Q => ∃ x, t x σ H Q) := ⟨fun pins s σ H Q I ⟨x, z⟩ => (h x).run pins s σ H Q I z⟩
theorem pt_any {X : Cx} {e : Expr} {α : Type} {t : α → TT} (h : ∀ x, PT X e (t x)) : PT X e (fun σ H Q => ∃ x, t x σ H Q) := ⟨fun pins s σ H Q I ⟨x, z⟩ => (h x).run pins s σ H Q I z⟩
theorem pw_any {X : Cx} {e : Expr} {α : Type} {t : α → TT} (h : ∀ x, PW X e (t x)) : PW X e (fun σ H Q => ∃ x, t x σ H Q) := ⟨fun w pins s σ H Q I ⟨x, z⟩ => (h x).run w pins s σ H Q I z⟩
theorem pa_any {X : Cx} {es : List Expr} {α : Type} {t : α → TA} (h : ∀ x, PA X es (t x)) : PA X es (fun σ H Q => ∃ x, t x σ H Q) := ⟨fun pos pins s σ H Q I ⟨x, z⟩ => (h x).run pos pins s σ H Q I z⟩

/-- the context of a def's body or a block of it -/
def visB (sc : Scope) (x : Str) : Bool := match sc.names.lookup x with
  | some .local => true
  | some .cell => true
  | some .free => true
  | _ => false
def glB (sc : Scope) (x : Str) : Bool := match sc.names.lookup x with
  | some .globalImplicit => true
  | _ => false
def locB (sc : Scope) (x : Str) : Bool := match sc.names.lookup x with
  | some .local => true
  | some .cell => true
  | _ => false
theorem loc_of {sc : Scope} {x : Str} (h : locB sc x = true) : Loc sc x := by
  unfold locB at h
  split at h
  · exact .inl ‹_›
  · exact .inr ‹_›
  · cases h
theorem vis_of {sc : Scope} {x : Str} (h : visB sc x = true) : Vis sc x := by
  unfold visB at h
  split at h
  · exact .inl ‹_›
  · exact .inr (.inl ‹_›)
  · exact .inr (.inr ‹_›)
  · cases h
theorem gl_of {sc : Scope} {x : Str} (h : glB sc x = true) : sc.names.lookup x = some .globalImplicit := by
  unfold glB at h
  split at h
  · assumption
  · cases h
/-- a name that may be stored -/
def Sto (X : Cx) (sc : Scope) (x : Str) : Prop := Loc sc x ∧ (X.fn x = true ∨ sc.names.lookup x = some .local)
def lclB (sc : Scope) (x : Str) : Bool := match sc.names.lookup x with
  | some .local => true
  | _ => false
theorem sto_l {X : Cx} {sc : Scope} {x : Str} (h : lclB sc x = true) : Sto X sc x := by
  unfold lclB at h
  split at h
  · exact ⟨.inl ‹_›, .inr ‹_›⟩
  · cases h
theorem sto_c {X : Cx} {sc : Scope} {x : Str} (D : ∀ x, X.fn x = true) (h : locB sc x = true) : Sto X sc x := ⟨loc_of h, .inl (D x)⟩
structure Cf (X : Cx) (W : WX) (sc : Scope) (N : List Str) : Prop where
  hsc : X.env.scope = sc
  hN : X.N = N
  nd : N.Nodup
  calm : X.calm = true
  tk : Takes X W
  hu : X.A.units + 64 < cLine
  pass : PassesOwn (model X.prog X.w) X.A X.env X.xe
  hu2 : X.A.units + 150 < cLine
section
variable {X : Cx} {W : WX} {sc : Scope} {N : List Str} {Γ : List Sl}
theorem Cf.gl (C : Cf X W sc N) {x : Str} (h : glB sc x = true) : Gl X x := by
  show X.env.scope.names.lookup x = _
  rw [C.hsc]
  exact gl_of h
/-- from a pure reading -/
theorem evp_of {e : Expr} {t : TE} {a : AV} (h : PE X e t) (k : ∀ σ H Q G, Sta X.K G H σ Γ → (∀ G' H' v, Ext G H G' H' → Sta X.K G' H' σ Γ → AVok X.K G' H' σ v a → Q v H') → t σ H Q) : EvP X W Γ e a :=
  pe_imp h fun σ H Q ⟨G, S, p⟩ => k σ H Q G S fun G' H' v e' S' a' => p G' H' e' v S' a'
theorem evp_var (C : Cf X W sc N) {i : Nat} {x : Str} {pos : Pos} {fr : Bool} {d : PyData} (hg : Γ[i]? = some (.dat fr d)) (hN : N[i]? = some x) (hv : visB sc x = true)
    (hd : (x == ("__debug__" : Str)) = false := by decide +kernel) (hcd : (x == ("__classdict__" : Str)) = false := by decide +kernel) : EvP X W Γ (.Name x pos) (.d fr d) := by
  refine evp_of (pe_var (i := i) (by rw [C.hN]; exact hN) (by rw [C.hsc]; exact vis_of hv) hd hcd) fun σ H Q G S k => ?_
  obtain ⟨A, T⟩ := id S
  obtain ⟨_, v, h1, h2⟩ := T.sl i _ hg
  exact ⟨v, h1, k G H v (Ext.rf S.w) S h2⟩
theorem evp_slot (C : Cf X W sc N) {i : Nat} {x : Str} {pos : Pos} {c : Cl} (hg : Γ[i]? = some (.own c) ∨ Γ[i]? = some (.io c)) (hN : N[i]? = some x) (hv : visB sc x = true)
    (hd : (x == ("__debug__" : Str)) = false := by decide +kernel) (hcd : (x == ("__classdict__" : Str)) = false := by decide +kernel) : EvP X W Γ (.Name x pos) (.s i) := by
  refine evp_of (pe_var (i := i) (by rw [C.hN]; exact hN) (by rw [C.hsc]; exact vis_of hv) hd hcd) fun σ H Q G S k => ?_
  obtain ⟨A, T⟩ := id S
  have : ∃ v, σ[i]? = some (some v) := by
    rcases hg with hg | hg
    · obtain ⟨v, h1, _⟩ := T.sl i _ hg
      exact ⟨v, h1⟩
    · obtain ⟨v, h1, _⟩ := T.sl i _ hg
      exact ⟨v, h1⟩
  obtain ⟨v, h1⟩ := this
  exact ⟨v, h1, k G H v (Ext.rf S.w) S h1⟩
theorem evp_const {e : Expr} {v : V} {d : PyData} (h : PE X e (tC v)) (hd : ∀ K G H, Dn K G H v d) : EvP X W Γ e (.d true d) :=
  evp_of h fun σ H Q G S k => k G H v (Ext.rf S.w) S (hd _ _ _)
theorem evp_int {i : Int} {j : Nat} {pos : Pos} : EvP X W Γ (.Constant (.int i) j pos) (.d true (.int i)) := evp_const pe_int fun _ _ _ => .int i
theorem evp_bool {b : Bool} {j : Nat} {pos : Pos} : EvP X W Γ (.Constant (.bool b) j pos) (.d true (.bool b)) := evp_const pe_bl fun _ _ _ => .bl b
theorem evp_none {j : Nat} {pos : Pos} : EvP X W Γ (.Constant .none j pos) (.d true .none) := evp_const pe_non fun _ _ _ => .non
theorem evp_str {x : Str} {j : Nat} {pos : Pos} : EvP X W Γ (.Constant (.str x) j pos) (.d true (.str x)) := evp_const pe_str fun _ _ _ => .str x
/-- a pure expression with its datum named -/
theorem EvP.to {e : Expr} {fr : Bool} {d : PyData} {τ : Type} (h : EvP X W Γ e (.d fr d)) (x : τ) (enc : τ → PyData) (hx : enc x = d := by rfl) : Ev X W Γ e (R.val x) (fun r => .d fr (enc r)) (fun _ => Γ) := by
  subst hx
  exact h
/-- data that hold no list are free of their region -/
theorem Ev.free {e : Expr} {τ : Type} {m : R τ} {fr fr' : Bool} {enc : τ → PyData} {Γ' : τ → List Sl} (h : Ev X W Γ e m (fun r => .d fr (enc r)) Γ') (hf : ∀ r, flat (enc r) = true) : Ev X W Γ e m (fun r => .d fr' (enc r)) Γ' :=
  pe_imp h fun σ H Q ⟨G, S, p⟩ => ⟨G, S, p.imp fun r G' H' _ k v S' a => k v S' (Dn.free a (hf r))⟩
theorem EvP.free {e : Expr} {fr fr' : Bool} {d : PyData} (h : EvP X W Γ e (.d fr d)) (hf : flat d = true) : EvP X W Γ e (.d fr' d) := Ev.free h fun _ => hf
theorem EvP.any {e : Expr} {fr : Bool} {d : PyData} (h : EvP X W Γ e (.d fr d)) : EvP X W Γ e (.d false d) :=
  pe_imp h fun σ H Q ⟨G, S, p⟩ => ⟨G, S, p.imp fun r G' H' _ k v S' a => k v S' (Dn.mono (rg_ff G' fr) (TupLe.rf _) a)⟩
/-- a new list is frozen -/
theorem EvF.ev {e : Expr} {τ : Type} {m : R τ} {ds : τ → List PyData} {Γ' : τ → List Sl} (h : EvF X W Γ e m ds Γ') : Ev X W Γ e m (fun r => .d true (.list (ds r))) Γ' :=
  pe_imp h fun σ H Q ⟨G, S, p⟩ => ⟨G, S, p.impG fun r G' H' _ k p vs S' hp hd => by
    obtain ⟨S2, e2⟩ := S'.grow (grow_new (o := .lst vs) S'.w hp)
    exact k _ _ e2 _ S2 (.lst (.inl upd_same) (hd.mono e2.n e2.t))⟩
theorem evp_glob (C : Cf X W sc N) {x : Str} {v : V} {u : Value} {d : PyData} {pos : Pos} (hg : glB sc x = true) (hm : X.mg x = some u) (r : RelV v u) (hd : ∀ G H, Dn X.K G H v d) (hdb : (x == ("__debug__" : Str)) = false := by decide +kernel) :
    EvP X W Γ (.Name x pos) (.d true d) :=
  evp_of (pe_glob (C.gl hg) hm r hdb) fun σ H Q G S k => k G H v (Ext.rf S.w) S (hd _ _)

/-! ## two operands -/
/-- the reading of two operands and an operator -/
theorem bin_rd {α β γ : Type} {ma : R α} {ava : α → AV} {Γa : α → List Sl} {mb : α → R β} {avb : α → β → AV} {Γb : α → β → List Sl} {k : α → β → R γ} {avk : γ → AV} {Γk : γ → List Sl} {r : R2}
    (hk : ∀ x y G H σ u v Q, Sta X.K G H σ (Γb x y) → AVok X.K G H σ u (ava x) → AVok X.K G H σ v (avb x y) → Pst X W G H σ (k x y) (fun z G' H' => ∀ w, Sta X.K G' H' σ (Γk z) → AVok X.K G' H' σ w (avk z) → Q w H') → r u v H Q)
    {σ : St} {H : Hp} {Q : VK} (h : rdE X W Γ (ma.bind fun x => (mb x).bind fun y => k x y) avk Γk σ H Q) :
    tOp r (rdE X W Γ ma ava Γa) (fun σ H Q => ∃ x, rdE X W (Γa x) (mb x) (avb x) (Γb x) σ H Q) σ H Q := by
  obtain ⟨G, S, p⟩ := h
  refine ⟨G, S, (Pst.bind p).imp fun x G1 H1 e1 p1 u S1 a1 => ⟨x, G1, S1, (Pst.bind p1).imp fun y G2 H2 e2 p2 v S2 a2 => ?_⟩⟩
  exact hk x y G2 H2 σ u v Q S2 (a1.ext e2) a2 p2
variable {a b : Expr} {pos : Pos} {α β γ : Type} {ma : R α} {mb : α → R β} {Γa : α → List Sl} {Γb : α → β → List Sl} {Γk : γ → List Sl}
/-- ints in, a total answer out -/
theorem ev_ar {op : Operator} {g : Int → Int → Int} {f1 f2 : Bool} {fa : α → Int} {fb : α → β → Int} (ho : OpR X (binaryOp op) (rI0 fun i j => .int (g i j))) (ha : Ev X W Γ a ma (fun x => .d f1 (.int (fa x))) Γa)
    (hb : ∀ x, Ev X W (Γa x) b (mb x) (fun y => .d f2 (.int (fb x y))) (Γb x)) (kk : α → β → γ) (fk : γ → Int) (h1 : ∀ x y, fk (kk x y) = g (fa x) (fb x y) := by intros; rfl) (h2 : ∀ x y, Γk (kk x y) = Γb x y := by intros; rfl) :
    Ev X W Γ (.BinOp a op b pos) (ma.bind fun x => (mb x).bind fun y => .val (kk x y)) (fun z => .d true (.int (fk z))) Γk := by
  refine pe_imp (pe_op ho ha (pe_any hb)) fun σ H Q h => bin_rd (fun x y G H σ u v Q S au av p => ?_) h
  refine ⟨fa x, fb x y, dn_int au, dn_int av, p G H (Ext.rf S.w) _ (by rw [h2]; exact S) ?_⟩
  show Dn _ _ _ _ _
  rw [h1]
  exact .int _
/-- ints in, under a condition -/
theorem ev_arC {op : Operator} {g : Int → Int → Int} {P : Int → Int → Prop} {f1 f2 : Bool} {fa : α → Int} {fb : α → β → Int} (c : Int → Int → Bool) (ho : OpR X (binaryOp op) (rI P fun i j => .int (g i j))) (hc : ∀ i j, c i j = true → P i j)
    (ha : Ev X W Γ a ma (fun x => .d f1 (.int (fa x))) Γa) (hb : ∀ x, Ev X W (Γa x) b (mb x) (fun y => .d f2 (.int (fb x y))) (Γb x)) (kk : α → β → γ) (fk : γ → Int)
    (h1 : ∀ x y, fk (kk x y) = g (fa x) (fb x y) := by intros; rfl) (h2 : ∀ x y, Γk (kk x y) = Γb x y := by intros; rfl) :
    Ev X W Γ (.BinOp a op b pos) (ma.bind fun x => (mb x).bind fun y => if c (fa x) (fb x y) then .val (kk x y) else .bad) (fun z => .d true (.int (fk z))) Γk := by
  refine pe_imp (pe_op ho ha (pe_any hb)) fun σ H Q h => bin_rd (fun x y G H σ u v Q S au av p => ?_) h
  cases e : c (fa x) (fb x y) with
  | false => rw [if_neg (by rw [e]; simp)] at p; exact False.elim p
  | true =>
    rw [if_pos e] at p
    refine ⟨fa x, fb x y, dn_int au, dn_int av, hc _ _ e, p G H (Ext.rf S.w) _ (by rw [h2]; exact S) ?_⟩
    show Dn _ _ _ _ _
    rw [h1]
    exact .int _
end
end PD


set_option Elab.async false
set_option linter.all false
set_option maxRecDepth 100000
set_option maxHeartbeats 4000000
namespace PD
open PySem L2
theorem itT {P Q : Prop} (h : P) : if true = true then P else Q := by rw [if_pos rfl]; exact h
theorem itF {P Q : Prop} (h : Q) : if false = true then P else Q := by rw [if_neg (by simp)]; exact h
/-! ## statements -/
inductive Fl (φ ε : Type) where
  | nx (f : φ)
  | ex (e : ε)
/-- how a block is left -/
inductive Xo where
  | rt (d : PyData) (io : List (Nat × Cl))
  | rtF (ds : List PyData) (io : List (Nat × Cl))
  | bk (Γ : List Sl)
  | ct (Γ : List Sl)
/-- the cells handed in, as they stand -/
def ioOk (Γ : List Sl) : List (Nat × Cl) → Prop
  | [] => True
  | (i, c) :: r => Γ[i]? = some (.io c) ∧ ioOk Γ r
def FinX (K : PySem.W.Frag) (G : Gh) (H : Hp) (D : Ends) : Xo → Prop
  | .rt d io => ∀ σ Γ v, Sta K G H σ Γ → ioOk Γ io → Dn K (rg G true) H v d → D.rt v H
  | .rtF ds io => ∀ σ Γ p vs, Sta K G H σ Γ → ioOk Γ io → H p = none → DnA K (rg G true) H vs ds → D.rt (.ref p) (upd H p (.lst vs))
  | .bk Γ => ∀ σ, Sta K G H σ Γ → D.bk σ H
  | .ct Γ => ∀ σ, Sta K G H σ Γ → D.ct σ H
def Fin {φ ε : Type} (K : PySem.W.Frag) (G : Gh) (H : Hp) (D : Ends) (Γf : φ → List Sl) (Xf : ε → Xo) : Fl φ ε → Prop
  | .nx f => ∀ σ, Sta K G H σ (Γf f) → D.nx σ H
  | .ex e => FinX K G H D (Xf e)
/-- a statement's result: an exception may find any slots -/
def PstS (X : Cx) (W : WX) (G : Gh) (H : Hp) {τ : Type} (m : R τ) (P : τ → Gh → Hp → Prop) : Prop := ∀ σ, Pst X W G H σ m P
theorem PstS.ext {X : Cx} {W : WX} {G G' : Gh} {H H' : Hp} {τ : Type} {m : R τ} {P : τ → Gh → Hp → Prop} (h : PstS X W G H m P) (e : Ext G H G' H') : PstS X W G' H' m P := fun σ => (h σ).ext e
/-- from a statement's to an expression's within it -/
theorem PstS.bind {X : Cx} {W : WX} {G : Gh} {H : Hp} {σ : St} {τ ρ : Type} {m : R τ} {k : τ → R ρ} {P : ρ → Gh → Hp → Prop} (h : PstS X W G H (m.bind k) P) : Pst X W G H σ m (fun r G' H' => PstS X W G' H' (k r) P) := by
  cases m with
  | bad => exact h σ
  | exc x => exact h σ
  | val r => exact fun G2 H2 e2 => PstS.ext h e2
theorem PstS.imp {X : Cx} {W : WX} {G : Gh} {H : Hp} {τ : Type} {m : R τ} {P P' : τ → Gh → Hp → Prop} (h : PstS X W G H m P) (k : ∀ r G' H', Ext G H G' H' → P r G' H' → P' r G' H') : PstS X W G H m P' := fun σ => (h σ).imp k
theorem PstS.bindS {X : Cx} {W : WX} {G : Gh} {H : Hp} {τ ρ : Type} {m : R τ} {k : τ → R ρ} {P : ρ → Gh → Hp → Prop} (h : PstS X W G H (m.bind k) P) : PstS X W G H m (fun r G' H' => PstS X W G' H' (k r) P) := fun σ => PstS.bind h
def rdS (X : Cx) (W : WX) (Γ : List Sl) {ω φ ε : Type} (m : R ω) (view : ω → Fl φ ε) (Γf : φ → List Sl) (Xf : ε → Xo) : TS := fun D σ H => ∃ G, Sta X.K G H σ Γ ∧ PstS X W G H m fun w G' H' => Fin X.K G' H' D Γf Xf (view w)
def Ex (X : Cx) (W : WX) (Γ : List Sl) (ss : List Stmt) {ω φ ε : Type} (m : R ω) (view : ω → Fl φ ε) (Γf : φ → List Sl) (Xf : ε → Xo) : Prop := PSs X ss (rdS X W Γ m view Γf Xf)
theorem ps_imp {X : Cx} {s : Stmt} {t t' : TS} (h : PS X s t) (k : ∀ D σ H, t' D σ H → t D σ H) : PS X s t' := ⟨fun pins s σ H D I z => h.run pins s σ H D I (k D σ H z)⟩
theorem pss_imp {X : Cx} {s : List Stmt} {t t' : TS} (h : PSs X s t) (k : ∀ D σ H, t' D σ H → t D σ H) : PSs X s t' := ⟨fun pins s σ H D I z => h.run pins s σ H D I (k D σ H z)⟩
theorem pss_any {X : Cx} {s : List Stmt} {α : Type} {t : α → TS} (h : ∀ x, PSs X s (t x)) : PSs X s (fun D σ H => ∃ x, t x D σ H) := ⟨fun pins s σ H D I ⟨x, z⟩ => (h x).run pins s σ H D I z⟩
def wipeG (Γ : List Sl) : List Nat → List Sl
  | [] => Γ
  | i :: is => (wipeG Γ is).set i .un
theorem Sta.wipe {K : PySem.W.Frag} {G : Gh} {H : Hp} {σ : St} {Γ : List Sl} (s : Sta K G H σ Γ) : ∀ is : List Nat, Sta K G H σ (wipeG Γ is)
  | [] => s
  | i :: is => (Sta.wipe s is).forget i
section
variable {X : Cx} {W : WX} {sc : Scope} {N : List Str} {Γ : List Sl} {ω φ ε : Type} {view : ω → Fl φ ε} {Γf : φ → List Sl} {Xf : ε → Xo} {rest : List Stmt} {pos : Pos}
/-- the end of a block; the slots of is are forgotten -/
theorem ex_nil (is : List Nat) {w : ω} {f : φ} (hv : view w = .nx f) (hf : Γf f = wipeG Γ is) : Ex X W Γ [] (R.val w) view Γf Xf := by
  refine pss_imp pss_nil fun D σ H ⟨G, S, p⟩ => ?_
  have q : Fin X.K G H D Γf Xf (view w) := p σ G H (Ext.rf S.w)
  rw [hv] at q
  exact q σ (by rw [hf]; exact S.wipe is)
theorem Cf.pg (C : Cf X W sc N) {i : Nat} {x : Str} {p : Pos} (hN : N[i]? = some x) (hv : Sto X sc x) : PG X (.Name x p) (gName i) :=
  pg_name (by rw [C.hN]; exact C.nd) (by rw [C.hN]; exact hN) (by rw [C.hsc]; exact hv.1) (by rw [C.hsc]; exact hv.2)
/-- name = e -/
theorem ex_set (C : Cf X W sc N) (i : Nat) {x : Str} {p' : Pos} {e : Expr} {τ : Type} {m : R τ} {fr : Bool} {enc : τ → PyData} {Γ1 : τ → List Sl} {k : τ → R ω} (hN : N[i]? = some x) (hv : Sto X sc x)
    (he : Ev X W Γ e m (fun r => .d fr (enc r)) Γ1) (hr : ∀ r, Ex X W ((Γ1 r).set i (.dat fr (enc r))) rest (k r) view Γf Xf) (hs : swapsWith e (some (.Name x p')) pos.line X.env = pure false := by rfl) :
    Ex X W Γ (.Assign [.Name x p'] e pos :: rest) (m.bind k) view Γf Xf := by
  have hx : Loc X.env.scope x := by rw [C.hsc]; exact hv.1
  have h1 : PS X (.Assign [.Name x p'] e pos) _ := ps_set (i := i) (by rw [C.hN]; exact C.nd) (by rw [C.hN]; exact hN) hx he hs (by rw [C.hsc]; exact hv.2)
  refine pss_imp (pss_cons h1 (pss_any hr)) fun D σ H ⟨G, S, p⟩ => ?_
  exact ⟨G, S, (PstS.bind p).imp fun r G1 H1 e1 p1 v S1 a1 => ⟨r, G1, S1.put i a1, p1⟩⟩
/-- name = a new list, the name's own from here on -/
theorem ex_setF (C : Cf X W sc N) (i : Nat) {x : Str} {p' : Pos} {e : Expr} {τ : Type} {m : R τ} {ds : τ → List PyData} {Γ1 : τ → List Sl} {k : τ → R ω} (hN : N[i]? = some x) (hv : Sto X sc x)
    (he : EvF X W Γ e m ds Γ1) (hr : ∀ r, Ex X W ((Γ1 r).set i (.own (.lst (ds r)))) rest (k r) view Γf Xf) (hs : swapsWith e (some (.Name x p')) pos.line X.env = pure false := by rfl) :
    Ex X W Γ (.Assign [.Name x p'] e pos :: rest) (m.bind k) view Γf Xf := by
  have hx : Loc X.env.scope x := by rw [C.hsc]; exact hv.1
  have h1 : PS X (.Assign [.Name x p'] e pos) _ := ps_set (i := i) (by rw [C.hN]; exact C.nd) (by rw [C.hN]; exact hN) hx he hs (by rw [C.hsc]; exact hv.2)
  refine pss_imp (pss_cons h1 (pss_any hr)) fun D σ H ⟨G, S, p⟩ => ?_
  refine ⟨G, S, (PstS.bind p).imp fun r G1 H1 e1 p1 q vs S1 hq hd => ?_⟩
  obtain ⟨S2, e2⟩ := S1.putOwn i hq hd
  exact ⟨r, G1, S2, p1.ext e2⟩
/-- a list of one's own is frozen from here on -/
theorem ex_frz (i : Nat) {ss : List Stmt} {ds : List PyData} {m : R ω} (hg : Γ[i]? = some (.own (.lst ds))) (h : Ex X W (Γ.set i (.dat true (.list ds))) ss m view Γf Xf) : Ex X W Γ ss m view Γf Xf :=
  pss_imp h fun D σ H ⟨G, S, p⟩ => by
    obtain ⟨G', S', e⟩ := S.freeze i hg
    exact ⟨G', S', p.ext e⟩
/-- slots are forgotten -/
theorem ex_forget (is : List Nat) {ss : List Stmt} {m : R ω} (h : Ex X W (wipeG Γ is) ss m view Γf Xf) : Ex X W Γ ss m view Γf Xf :=
  pss_imp h fun D σ H ⟨G, S, p⟩ => ⟨G, S.wipe is, p⟩
/-- e as a statement -/
theorem ex_expr {e : Expr} {τ : Type} {m : R τ} {av : τ → AV} {Γ1 : τ → List Sl} {k : τ → R ω} (he : Ev X W Γ e m av Γ1) (hr : ∀ r, Ex X W (Γ1 r) rest (k r) view Γf Xf) (hs : swapsWith e none pos.line X.env = pure false := by rfl) :
    Ex X W Γ (.Expr e pos :: rest) (m.bind k) view Γf Xf := by
  refine pss_imp (pss_cons (ps_expr he hs) (pss_any hr)) fun D σ H ⟨G, S, p⟩ => ?_
  exact ⟨G, S, (PstS.bind p).imp fun r G1 H1 e1 p1 v S1 a1 => ⟨r, G1, S1, p1⟩⟩
/-- return e -/
theorem ex_ret {e : Expr} {τ : Type} {m : R τ} {enc : τ → PyData} {Γ1 : τ → List Sl} {k : τ → ω} {ke : τ → ε} (he : Ev X W Γ e m (fun r => .d true (enc r)) Γ1) (hv : ∀ r, view (k r) = .ex (ke r) := by intros; rfl) (io : τ → List (Nat × Cl)) (hx : ∀ r, Xf (ke r) = .rt (enc r) (io r) := by intros; rfl) (hio : ∀ r, ioOk (Γ1 r) (io r) := by intros; trivial) :
    Ex X W Γ [.Return (some e) pos] (m.bind fun r => .val (k r)) view Γf Xf := by
  refine pss_imp (pss_one (ps_ret he)) fun D σ H ⟨G, S, p⟩ => ?_
  refine ⟨G, S, (PstS.bind p).imp fun r G1 H1 e1 p1 v S1 a1 => ?_⟩
  have q : Fin X.K G1 H1 D Γf Xf (view (k r)) := p1 σ G1 H1 (Ext.rf S1.w)
  rw [hv] at q
  have q : FinX _ _ _ _ _ := q
  rw [hx] at q
  exact q σ _ v S1 (hio r) a1
/-- return of a new list -/
theorem ex_retF {e : Expr} {τ : Type} {m : R τ} {ds : τ → List PyData} {Γ1 : τ → List Sl} {k : τ → ω} {ke : τ → ε} (he : EvF X W Γ e m ds Γ1) (hv : ∀ r, view (k r) = .ex (ke r) := by intros; rfl) (io : τ → List (Nat × Cl)) (hx : ∀ r, Xf (ke r) = .rtF (ds r) (io r) := by intros; rfl) (hio : ∀ r, ioOk (Γ1 r) (io r) := by intros; trivial) :
    Ex X W Γ [.Return (some e) pos] (m.bind fun r => .val (k r)) view Γf Xf := by
  refine pss_imp (pss_one (ps_ret he)) fun D σ H ⟨G, S, p⟩ => ?_
  refine ⟨G, S, (PstS.bind p).imp fun r G1 H1 e1 p1 q vs S1 hq hd => ?_⟩
  have z : Fin X.K G1 H1 D Γf Xf (view (k r)) := p1 σ G1 H1 (Ext.rf S1.w)
  rw [hv] at z
  have z : FinX _ _ _ _ _ := z
  rw [hx] at z
  exact z σ _ q vs S1 (hio r) hq hd
/-- a test -/
theorem EvP.tst {e : Expr} {fr : Bool} {b : Bool} (h : EvP X W Γ e (.d fr (.bool b))) (he : ∀ whole, isTrue e X.env whole = (do let v ← whole; standAt e.pos; holding [v] (truthy v)) := by intro _; rfl) : EvTP X W Γ e b :=
  pt_imp (pt_val h he) fun σ H Q ⟨G, S, p⟩ => ⟨G, S, Pst.imp p fun r G' H' _ k v S' a => ⟨b, dn_bool a, k S'⟩⟩
theorem Ev.tst {e : Expr} {τ : Type} {m : R τ} {fr : Bool} {b : τ → Bool} {Γ1 : τ → List Sl} (h : Ev X W Γ e m (fun r => .d fr (.bool (b r))) Γ1) (he : ∀ whole, isTrue e X.env whole = (do let v ← whole; standAt e.pos; holding [v] (truthy v)) := by intro _; rfl) : EvT X W Γ e m b Γ1 :=
  pt_imp (pt_val h he) fun σ H Q ⟨G, S, p⟩ => ⟨G, S, Pst.imp p fun r G' H' _ k v S' a => ⟨b r, dn_bool a, k S'⟩⟩
/-- if, the first branch never falls through; the whole has no falling through but in what follows -/
theorem ex_ifX {c : Expr} {a : List Stmt} {τ : Type} {mc : R τ} {b : τ → Bool} {Γc : τ → List Sl} {mA : τ → R ω} {mB : τ → R ω} {viewA : ω → Fl Empty ε} (hc : EvT X W Γ c mc b Γc) (hA : ∀ r, Ex X W (Γc r) a (mA r) viewA (fun z => z.elim) Xf)
    (hB : ∀ r, Ex X W (Γc r) rest (mB r) view Γf Xf) (hv : ∀ w e, viewA w = .ex e → view w = .ex e := by intro _ _ h; exact h) :
    Ex X W Γ (.If c a [] pos :: rest) (mc.bind fun r => if b r then mA r else mB r) view Γf Xf := by
  refine pss_imp (pss_cons (ps_if hc (pss_any hA) pss_nil) (pss_any hB)) fun D σ H ⟨G, S, p⟩ => ?_
  refine ⟨G, S, (PstS.bind p).imp fun r G1 H1 e1 p1 S1 => ?_⟩
  cases hb : b r with
  | true =>
    refine itT ?_
    rw [if_pos hb] at p1
    refine ⟨r, G1, S1, p1.imp fun w G2 H2 _ q => ?_⟩
    cases e : viewA w with
    | nx z => exact z.elim
    | ex e' =>
      rw [hv w e' e] at q
      have q : FinX _ _ _ _ _ := q
      show FinX _ _ _ _ _
      cases ho : Xf e' with
      | rt d Γ' => rw [ho] at q; exact q
      | rtF d Γ' => rw [ho] at q; exact q
      | bk Γ' => rw [ho] at q; exact q
      | ct Γ' => rw [ho] at q; exact q
  | false =>
    refine itF ?_
    rw [if_neg (by rw [hb]; simp)] at p1
    exact ⟨r, G1, S1, p1⟩
/-- if .. else, both branches end the block -/
theorem ex_if2 {c : Expr} {a b' : List Stmt} {τ : Type} {mc : R τ} {b : τ → Bool} {Γc : τ → List Sl} {mA : τ → R ω} {mB : τ → R ω} (hc : EvT X W Γ c mc b Γc) (hA : ∀ r, Ex X W (Γc r) a (mA r) view Γf Xf)
    (hB : ∀ r, Ex X W (Γc r) b' (mB r) view Γf Xf) : Ex X W Γ [.If c a b' pos] (mc.bind fun r => if b r then mA r else mB r) view Γf Xf := by
  refine pss_imp (pss_one (ps_if hc (pss_any hA) (pss_any hB))) fun D σ H ⟨G, S, p⟩ => ?_
  refine ⟨G, S, (PstS.bind p).imp fun r G1 H1 e1 p1 S1 => ?_⟩
  cases hb : b r with
  | true =>
    refine itT ?_
    rw [if_pos hb] at p1
    exact ⟨r, G1, S1, p1⟩
  | false =>
    refine itF ?_
    rw [if_neg (by rw [hb]; simp)] at p1
    exact ⟨r, G1, S1, p1⟩
def contJ {J ωJ ε ω : Type} (viewJ : ωJ → Fl J ε) (mR : J → R ω) (inj : ε → ω) (w : ωJ) : R ω := match viewJ w with
  | .nx j => mR j
  | .ex e => .val (inj e)
/-- if .. else, the branches meet in J -/
theorem ex_ifJ {c : Expr} {a b' : List Stmt} {τ J ωJ : Type} {mc : R τ} {b : τ → Bool} {Γc : τ → List Sl} {mA : τ → R ωJ} {mB : τ → R ωJ} {viewJ : ωJ → Fl J ε} {Γj : J → List Sl} {inj : ε → ω} {mR : J → R ω} (hc : EvT X W Γ c mc b Γc)
    (hA : ∀ r, Ex X W (Γc r) a (mA r) viewJ Γj Xf) (hB : ∀ r, Ex X W (Γc r) b' (mB r) viewJ Γj Xf) (hR : ∀ j, Ex X W (Γj j) rest (mR j) view Γf Xf) (hi : ∀ e, view (inj e) = .ex e := by intros; rfl) :
    Ex X W Γ (.If c a b' pos :: rest) (mc.bind fun r => (if b r then mA r else mB r).bind (contJ viewJ mR inj)) view Γf Xf := by
  refine pss_imp (pss_cons (ps_if hc (pss_any hA) (pss_any hB)) (pss_any hR)) fun D σ H ⟨G, S, p⟩ => ?_
  refine ⟨G, S, (PstS.bind p).imp fun r G1 H1 e1 p1 S1 => ?_⟩
  have fin : ∀ w G2 H2, (PstS X W G2 H2 (contJ viewJ mR inj w) fun w G' H' => Fin X.K G' H' D Γf Xf (view w)) → Wf G2 H2 →
      Fin X.K G2 H2 { D with nx := fun σ H => ∃ j, rdS X W (Γj j) (mR j) view Γf Xf D σ H } Γj Xf (viewJ w) := fun w G2 H2 q w2 => by
    unfold contJ at q
    cases e : viewJ w with
    | nx j =>
      rw [e] at q
      exact fun σ' S' => ⟨j, G2, S', q⟩
    | ex e' =>
      rw [e] at q
      have q : Fin X.K G2 H2 D Γf Xf (view (inj e')) := q σ G2 H2 (Ext.rf w2)
      rw [hi] at q
      have q : FinX _ _ _ _ _ := q
      show FinX _ _ _ _ _
      cases ho : Xf e' with
      | rt d Γ' => rw [ho] at q; exact q
      | rtF d Γ' => rw [ho] at q; exact q
      | bk Γ' => rw [ho] at q; exact q
      | ct Γ' => rw [ho] at q; exact q
  cases hb : b r with
  | true =>
    refine itT ?_
    rw [if_pos hb] at p1
    exact ⟨r, G1, S1, (PstS.bindS p1).imp fun w G2 H2 e2 q => fin w G2 H2 q e2.w⟩
  | false =>
    refine itF ?_
    rw [if_neg (by rw [hb]; simp)] at p1
    exact ⟨r, G1, S1, (PstS.bindS p1).imp fun w G2 H2 e2 q => fin w G2 H2 q e2.w⟩
end
end PD


set_option Elab.async false
set_option linter.all false
set_option maxRecDepth 100000
set_option maxHeartbeats 4000000
namespace PD
open PySem L2
theorem R.bind_assoc {α β γ : Type} (m : R α) (f : α → R β) (g : β → R γ) : (m.bind f).bind g = m.bind fun a => (f a).bind g := by cases m <;> rfl
theorem R.bind_val {α : Type} (m : R α) : (m.bind fun a => .val a) = m := by cases m <;> rfl
/-! ## targets -/
def Tgt (X : Cx) (tg : Expr) {α : Type} (enc : α → PyData) (fr : Bool) (ts : List Nat) (f : α → List Sl → List Sl) : Prop :=
  PG X tg (fun v σ H Q => ∃ G Γ x, Sta X.K G H σ Γ ∧ Dn X.K (rg G fr) H v (enc x) ∧ ∀ σ', σ'.length = σ.length → (∀ j, j ∉ ts → σ'[j]? = σ[j]?) → Sta X.K G H σ' (f x Γ) → Q σ' H)
theorem pg_imp {X : Cx} {tg : Expr} {t t' : TG} (h : PG X tg t) (k : ∀ v σ H Q, t' v σ H Q → t v σ H Q) : PG X tg t' := ⟨fun pins s σ H v u Q I r z => h.run pins s σ H v u Q I r (k v σ H Q z)⟩
section
variable {X : Cx} {W : WX} {sc : Scope} {N : List Str}
theorem tg_name (C : Cf X W sc N) (i : Nat) {x : Str} {p : Pos} {α : Type} {enc : α → PyData} {fr : Bool} (hN : N[i]? = some x) (hv : Sto X sc x) : Tgt X (.Name x p) enc fr [i] (fun x Γ => Γ.set i (.dat fr (enc x))) :=
  pg_imp (C.pg hN hv) fun v σ H Q ⟨G, Γ, x, S, h, k⟩ => k _ (List.length_set ..) (fun j hj => List.getElem?_set_ne (Ne.symm (by simpa using hj))) (S.put i h)
/-- data that hold no list -/
theorem tg_nameF (C : Cf X W sc N) (i : Nat) {x : Str} {p : Pos} {α : Type} {enc : α → PyData} {fr : Bool} (hN : N[i]? = some x) (hv : Sto X sc x) (hf : ∀ x, flat (enc x) = true) : Tgt X (.Name x p) enc fr [i] (fun x Γ => Γ.set i (.dat true (enc x))) :=
  pg_imp (C.pg hN hv) fun v σ H Q ⟨G, Γ, x, S, h, k⟩ => k _ (List.length_set ..) (fun j hj => List.getElem?_set_ne (Ne.symm (by simpa using hj))) (S.put i (Dn.free h (hf x)))
theorem tg_tup2 (C : Cf X W sc N) {t1 t2 : Expr} {kk : Nat} {p : Pos} {α : Type} {e1 e2 : α → PyData} {fr : Bool} {f1 f2 : α → List Sl → List Sl} {ts1 ts2 : List Nat} (h1 : Tgt X t1 e1 fr ts1 f1) (h2 : Tgt X t2 e2 fr ts2 f2)
    (hn : (assignEach [t1, t2] X.env).length = 2 := by rfl) (hst : (assignEach [t1, t2] X.env).findIdx? (·.1) = none := by rfl) (hs1 : (assignEach [t1, t2] X.env).map (·.2) = assign t1 X.env :: (assignEach [t2] X.env).map (·.2) := by rfl) (hs2 : (assignEach [t2] X.env).map (·.2) = assign t2 X.env :: (assignEach [] X.env).map (·.2) := by rfl) :
    Tgt X (.Tuple [t1, t2] kk p) (fun x => .tuple [e1 x, e2 x]) fr (ts1 ++ ts2) (fun x Γ => f2 x (f1 x Γ)) := by
  refine pg_imp (pg_tup (n := 2) C.calm (pgs_cons h1 (pgs_cons h2 pgs_nil hs2) hs1) hn hst) fun v σ H Q ⟨G, Γ, x, S, h, k⟩ => ?_
  obtain ⟨a, xs, rfl, hq, hd⟩ := dn_tuple h
  cases hd with
  | cons d1 r1 =>
    cases r1 with
    | cons d2 r2 =>
      cases r2
      exact ⟨a, _, rfl, hq, rfl, _, _, rfl, G, Γ, x, S, d1, fun σ1 l1 k1 S1 => ⟨_, _, rfl, G, _, x, S1, d2, fun σ2 l2 k2 S2 => ⟨rfl, k _ (l2.trans l1) (fun j hj => (k2 j fun z => hj (by simp [z])).trans (k1 j fun z => hj (by simp [z]))) S2⟩⟩⟩
theorem tg_tup3 (C : Cf X W sc N) {t1 t2 t3 : Expr} {kk : Nat} {p : Pos} {α : Type} {e1 e2 e3 : α → PyData} {fr : Bool} {f1 f2 f3 : α → List Sl → List Sl} {ts1 ts2 ts3 : List Nat} (h1 : Tgt X t1 e1 fr ts1 f1) (h2 : Tgt X t2 e2 fr ts2 f2) (h3 : Tgt X t3 e3 fr ts3 f3)
    (hn : (assignEach [t1, t2, t3] X.env).length = 3 := by rfl) (hst : (assignEach [t1, t2, t3] X.env).findIdx? (·.1) = none := by rfl) (hs1 : (assignEach [t1, t2, t3] X.env).map (·.2) = assign t1 X.env :: (assignEach [t2, t3] X.env).map (·.2) := by rfl)
    (hs2 : (assignEach [t2, t3] X.env).map (·.2) = assign t2 X.env :: (assignEach [t3] X.env).map (·.2) := by rfl) (hs3 : (assignEach [t3] X.env).map (·.2) = assign t3 X.env :: (assignEach [] X.env).map (·.2) := by rfl) :
    Tgt X (.Tuple [t1, t2, t3] kk p) (fun x => .tuple [e1 x, e2 x, e3 x]) fr (ts1 ++ ts2 ++ ts3) (fun x Γ => f3 x (f2 x (f1 x Γ))) := by
  refine pg_imp (pg_tup (n := 3) C.calm (pgs_cons h1 (pgs_cons h2 (pgs_cons h3 pgs_nil hs3) hs2) hs1) hn hst) fun v σ H Q ⟨G, Γ, x, S, h, k⟩ => ?_
  obtain ⟨a, xs, rfl, hq, hd⟩ := dn_tuple h
  cases hd with
  | cons d1 r1 =>
    cases r1 with
    | cons d2 r2 =>
      cases r2 with
      | cons d3 r3 =>
        cases r3
        exact ⟨a, _, rfl, hq, rfl, _, _, rfl, G, Γ, x, S, d1, fun σ1 l1 k1 S1 => ⟨_, _, rfl, G, _, x, S1, d2, fun σ2 l2 k2 S2 => ⟨_, _, rfl, G, _, x, S2, d3, fun σ3 l3 k3 S3 => ⟨rfl, k _ (l3.trans (l2.trans l1)) (fun j hj => (k3 j fun z => hj (by simp [z])).trans ((k2 j fun z => hj (by simp [z])).trans (k1 j fun z => hj (by simp [z])))) S3⟩⟩⟩⟩
end
/-! ## what a for walks -/
structure ItD (K : PySem.W.Frag) (G : Gh) (H : Hp) (J : It) (ds : List PyData) (fr : Bool) : Prop where
  go : ∀ i G2 H2, i < ds.length → Le G H G2 H2 → J.go i H2
  yl : ∀ i G2 H2 σ Γ v H3, i < ds.length → Le G H G2 H2 → Sta K G2 H2 σ Γ → J.yld i H2 v H3 → ∃ G3 d, ds[i]? = some d ∧ Ext G2 H2 G3 H3 ∧ Sta K G3 H3 σ Γ ∧ Dn K (rg G3 fr) H3 v d
  st : ∀ G2 H2, Le G H G2 H2 → J.stop ds.length H2
def rdI (X : Cx) (W : WX) (Γ : List Sl) {ι : Type} (m : R ι) (ds : ι → List PyData) (fr : Bool) (Γ' : ι → List Sl) : TI := fun σ H Q => ∃ G, Sta X.K G H σ Γ ∧ Pst X W G H σ m fun r G' H' => ∀ J, Sta X.K G' H' σ (Γ' r) → ItD X.K G' H' J (ds r) fr → Q J H'
def EvI (X : Cx) (W : WX) (Γ : List Sl) (tg iter : Expr) {ι : Type} (m : R ι) (ds : ι → List PyData) (fr : Bool) (Γ' : ι → List Sl) : Prop := PI X tg iter (rdI X W Γ m ds fr Γ')
theorem pi_imp {X : Cx} {tg it : Expr} {t t' : TI} (h : PI X tg it t) (k : ∀ σ H Q, t' σ H Q → t σ H Q) : PI X tg it t' := ⟨fun pins s σ H Q I z => h.run pins s σ H Q I (k σ H Q z)⟩
section
variable {X : Cx} {W : WX} {sc : Scope} {N : List Str} {Γ : List Sl}
theorem itd_list {K : PySem.W.Frag} {G : Gh} {H : Hp} {a : Addr} {xs : List V} {ds : List PyData} {fr : Bool} (h : LsR K (rg G fr) a xs) (hd : DnA K (rg G fr) H xs ds) : ItD K G H (Itl K a) ds fr := by
  have sq : ∀ G2 H2, Le G H G2 H2 → SqL K H2 a xs := fun G2 H2 e => ((h.mono (e.rgl fr)).mono (e.w.rgl fr)).sq
  have hl := hd.length
  refine ⟨fun i G2 H2 hi e => ⟨xs, xs[i], sq G2 H2 e, by simp⟩, fun i G2 H2 σ Γ v H3 hi e S y => ?_, fun G2 H2 e => ⟨xs, sq G2 H2 e, Nat.le_of_eq hl⟩⟩
  obtain ⟨rfl, hy⟩ := y
  obtain ⟨d, h1, h2⟩ := (e.dna hd).get (hy xs (sq G2 _ e))
  exact ⟨G2, d, h1, Ext.rf S.w, S, h2⟩
theorem itd_tup {K : PySem.W.Frag} {G : Gh} {H : Hp} {a : Addr} {xs : List V} {ds : List PyData} {fr : Bool} (h : SqT K H a xs) (hd : DnA K (rg G fr) H xs ds) : ItD K G H (Itt K a) ds fr := by
  have sq : ∀ G2 H2, Le G H G2 H2 → SqT K H2 a xs := fun G2 H2 e => e.t.seq h
  have hl := hd.length
  refine ⟨fun i G2 H2 hi e => ⟨xs, xs[i], sq G2 H2 e, by simp⟩, fun i G2 H2 σ Γ v H3 hi e S y => ?_, fun G2 H2 e => ⟨xs, sq G2 H2 e, Nat.le_of_eq hl⟩⟩
  obtain ⟨rfl, hy⟩ := y
  obtain ⟨d, h1, h2⟩ := (e.dna hd).get (hy xs (sq G2 _ e))
  exact ⟨G2, d, h1, Ext.rf S.w, S, h2⟩
theorem itd_range {K : PySem.W.Frag} {G : Gh} {H : Hp} {lo : Int} {n : Nat} {ds : List PyData} (hd : ds = (List.range n).map fun i => PyData.int (lo + (i : Nat))) : ItD K G H (Itr lo n) ds true := by
  subst hd
  refine ⟨fun i G2 H2 hi e => by simpa [Itr] using hi, fun i G2 H2 σ Γ v H3 hi e S y => ?_, fun G2 H2 e => by simp [Itr]⟩
  obtain ⟨rfl, rfl⟩ := y
  have hi : i < n := by simpa using hi
  exact ⟨G2, .int (lo + (i : Nat)), by simp [hi], Ext.rf S.w, S, .int _⟩
theorem evi_list {tg e : Expr} {τ : Type} {m : R τ} {fr : Bool} {ds : τ → List PyData} {Γ' : τ → List Sl} (h : Ev X W Γ e m (fun r => .d fr (.list (ds r))) Γ') : EvI X W Γ tg e m ds fr Γ' :=
  pi_imp (pi_list h) fun σ H Q ⟨G, S, p⟩ => ⟨G, S, p.imp fun r G' H' _ k v S' a => by
    obtain ⟨p, xs, rfl, h1, h2⟩ := dn_list a
    exact ⟨p, rfl, ⟨xs, (h1.mono (S'.w.rgl fr)).sq⟩, k _ S' (itd_list h1 h2)⟩⟩
theorem evi_tup {tg e : Expr} {τ : Type} {m : R τ} {fr : Bool} {ds : τ → List PyData} {Γ' : τ → List Sl} (h : Ev X W Γ e m (fun r => .d fr (.tuple (ds r))) Γ') : EvI X W Γ tg e m ds fr Γ' :=
  pi_imp (pi_tup h) fun σ H Q ⟨G, S, p⟩ => ⟨G, S, p.imp fun r G' H' _ k v S' a => by
    obtain ⟨p, xs, rfl, h1, h2⟩ := dn_tuple a
    exact ⟨p, rfl, ⟨xs, h1⟩, k _ S' (itd_tup h1 h2)⟩⟩
end
/-! ## loops -/
def contV {S ε ω : Type} (mR : S → R ω) (inj : ε → ω) : Fl S ε → R ω
  | .nx s => mR s
  | .ex e => .val (inj e)
inductive Lx (S ε : Type) where
  | bk (s : S)
  | ct (s : S)
  | ex (e : ε)
def loopV {α S ε ω : Type} (view : ω → Fl S (Lx S ε)) (step : S → α → R ω) : List α → S → R (Fl S ε)
  | [], s => .val (.nx s)
  | x :: xs, s => (step s x).bind fun w => match view w with
    | .nx s' => loopV view step xs s'
    | .ex (.ct s') => loopV view step xs s'
    | .ex (.bk s') => .val (.nx s')
    | .ex (.ex e) => .val (.ex e)
def R.fold {α S : Type} (step : S → α → R S) : List α → S → R S
  | [], s => .val s
  | x :: xs, s => (step s x).bind fun s' => R.fold step xs s'
theorem loopV_fold {α S ε : Type} (step : S → α → R S) : ∀ (xs : List α) (s : S), loopV (ε := ε) (fun s => .nx s) step xs s = (R.fold step xs s).bind fun s => .val (.nx s)
  | [], s => rfl
  | x :: xs, s => by
    unfold loopV R.fold
    rw [R.bind_assoc]
    congr 1
    funext s'
    exact loopV_fold step xs s'
def XfL {S ε : Type} (Γs : S → List Sl) (Xf : ε → Xo) : Lx S ε → Xo
  | .bk s => .bk (Γs s)
  | .ct s => .ct (Γs s)
  | .ex e => Xf e
section
variable {X : Cx} {W : WX} {sc : Scope} {N : List Str} {Γ : List Sl} {ω φ ε : Type} {view : ω → Fl φ ε} {Γf : φ → List Sl} {Xf : ε → Xo} {rest : List Stmt} {pos : Pos}
theorem FinX.of {K : PySem.W.Frag} {G : Gh} {H : Hp} {D D' : Ends} {o : Xo} (h : FinX K G H D o) (hr : D'.rt = D.rt) (hb : ∀ Γ, o ≠ .bk Γ) (hc : ∀ Γ, o ≠ .ct Γ) : FinX K G H D' o := by
  cases o with
  | rt d io => intro σ Γ v S h1 h2; rw [hr]; exact h σ Γ v S h1 h2
  | rtF d io => intro σ Γ v p S h1 h2 h3; rw [hr]; exact h σ Γ v p S h1 h2 h3
  | bk Γ => exact absurd rfl (hb Γ)
  | ct Γ => exact absurd rfl (hc Γ)
def Xo.isRt : Xo → Bool
  | .rt _ _ => true
  | .rtF _ _ => true
  | _ => false
theorem FinX.rt_of {K : PySem.W.Frag} {G : Gh} {H : Hp} {D D' : Ends} {o : Xo} (h : FinX K G H D o) (hr : D'.rt = D.rt) (ho : o.isRt = true) : FinX K G H D' o :=
  h.of hr (fun Γ e => by rw [e] at ho; cases ho) (fun Γ e => by rw [e] at ho; cases ho)
/-- for tg in iter: body; rest -/
theorem ex_for (C : Cf X W sc N) {tg iter : Expr} {body : List Stmt} {ι α S ωb : Type} {mi : R ι} {enc : α → PyData} {fr : Bool} {Γi : ι → List Sl} {items : ι → List α} {f : α → List Sl → List Sl} {s0 : ι → S} {Γs : S → List Sl} {is : List Nat} {step : S → α → R ωb}
    {εr : Type} {viewB : ωb → Fl S (Lx S εr)} {mR : S → R ω} {Xr : εr → Xo} {inj : εr → ω} {ke : εr → ε} (hi : EvI X W Γ tg iter mi (fun r => (items r).map enc) fr Γi) {ts : List Nat} (ht : Tgt X tg enc fr ts f) (h0 : ∀ r, Γs (s0 r) = wipeG (Γi r) is)
    (hb : ∀ s x, Ex X W (f x (Γs s)) body (step s x) viewB Γs (XfL Γs Xr)) (hr : ∀ s, Ex X W (Γs s) rest (mR s) view Γf Xf) (hj : ∀ e, view (inj e) = .ex (ke e) := by intros; rfl) (hk : ∀ e, Xf (ke e) = Xr e := by intros; rfl) (hX : ∀ e, (Xr e).isRt = true := by intros; rfl)
    (hs : ∀ x, foldedSetIterable iter X.env x = pure x := by intro _; rfl) :
    Ex X W Γ (.For tg iter body [] pos :: rest) (mi.bind fun r => (loopV viewB step (items r) (s0 r)).bind (contV mR inj)) view Γf Xf := by
  have hB : PSs X body (fun D σ H => ∃ z : S × α, rdS X W (f z.2 (Γs z.1)) (step z.1 z.2) viewB Γs (XfL Γs Xr) D σ H) := pss_any fun z => hb z.1 z.2
  refine pss_imp (pss_cons (ps_for C.pass C.calm hi ht hB hs) (pss_any hr)) fun D σ H ⟨G, S0, p⟩ => ?_
  refine ⟨G, S0, (PstS.bind p).imp fun r G1 H1 e1 p1 J S1 I => ?_⟩
  generalize hD' : ({ D with nx := fun σ H => ∃ s, rdS X W (Γs s) (mR s) view Γf Xf D σ H } : Ends) = D'
  have hnx : D'.nx = fun σ H => ∃ s, rdS X W (Γs s) (mR s) view Γf Xf D σ H := by rw [← hD']
  have hrt : D'.rt = D.rt := by rw [← hD']
  let cont : Fl S εr → R ω := contV mR inj
  let P : ω → Gh → Hp → Prop := fun w G' H' => Fin X.K G' H' D Γf Xf (view w)
  refine ⟨fun i m σ H => m = (items r).length - i ∧ i ≤ (items r).length ∧ ∃ G s, Ext G1 H1 G H ∧ Sta X.K G H σ (Γs s) ∧ PstS X W G H ((loopV viewB step ((items r).drop i) s).bind cont) P,
    ⟨_, rfl, Nat.zero_le _, G1, s0 r, Ext.rf S1.w, by rw [h0]; exact S1.wipe is, p1⟩, ?_⟩
  rintro i m σ2 H2 ⟨rfl, hi2, G2, s, e2, S2, p2⟩
  have hlen : ((items r).map enc).length = (items r).length := List.length_map ..
  by_cases hlt : i < (items r).length
  · refine .inr ⟨I.go i G2 H2 (by rw [hlen]; exact hlt) e2.le, fun σ' H' => ∃ G3 s', Ext G1 H1 G3 H' ∧ Sta X.K G3 H' σ' (Γs s') ∧ PstS X W G3 H' ((loopV viewB step ((items r).drop (i + 1)) s').bind cont) P, fun σ' H' ⟨G3, s', q1, q2, q3⟩ => ⟨_, ?_, rfl, hlt, G3, s', q1, q2, q3⟩, fun v H3 y => ?_⟩
    · omega
    · obtain ⟨G3, d, hd, e3, S3, dn⟩ := I.yl i G2 H2 σ2 _ v H3 (by rw [hlen]; exact hlt) e2.le S2 y
      have hx : d = enc (items r)[i] := by
        rw [List.getElem?_map, List.getElem?_eq_getElem hlt] at hd
        exact (Option.some.inj hd).symm
      subst hx
      have p3 := p2.ext e3
      rw [List.drop_eq_getElem_cons hlt] at p3
      unfold loopV at p3
      rw [R.bind_assoc] at p3
      refine ⟨G3, Γs s, (items r)[i], S3, dn, fun σ4 _ _ S4 => ⟨(s, (items r)[i]), G3, S4, (PstS.bindS p3).imp fun w G5 H5 e5 p5 => ?_⟩⟩
      have e15 : Ext G1 H1 G5 H5 := (e2.tr e3).tr e5
      cases hw : viewB w with
      | nx s' =>
        rw [hw] at p5
        exact fun σ6 S6 => ⟨G5, s', e15, S6, p5⟩
      | ex x =>
        rw [hw] at p5
        cases x with
        | ct s' => exact fun σ6 S6 => ⟨G5, s', e15, S6, p5⟩
        | bk s' =>
          intro σ6 S6
          show D'.nx σ6 H5
          rw [hnx]
          exact ⟨s', G5, S6, p5⟩
        | ex e =>
          have q : Fin X.K G5 H5 D Γf Xf (view (inj e)) := p5 σ2 G5 H5 (Ext.rf e5.w)
          rw [hj] at q
          have q : FinX X.K G5 H5 D (Xf (ke e)) := q
          rw [hk] at q
          exact q.rt_of (by exact hrt) (hX e)
  · have e : i = (items r).length := by omega
    subst e
    refine .inl ⟨by have := I.st G2 H2 e2.le; rw [hlen] at this; exact this, ?_⟩
    rw [List.drop_length] at p2
    show D'.nx σ2 H2
    rw [hnx]
    exact ⟨s, G2, S2, p2⟩
/-- the same, a body that never leaves the loop -/
theorem ex_forS (C : Cf X W sc N) {tg iter : Expr} {body : List Stmt} {ι α S : Type} {mi : R ι} {enc : α → PyData} {fr : Bool} {Γi : ι → List Sl} {items : ι → List α} {f : α → List Sl → List Sl} {s0 : ι → S} {Γs : S → List Sl} {is : List Nat} {step : S → α → R S}
    {mR : S → R ω} (hi : EvI X W Γ tg iter mi (fun r => (items r).map enc) fr Γi) {ts : List Nat} (ht : Tgt X tg enc fr ts f) (h0 : ∀ r, Γs (s0 r) = wipeG (Γi r) is)
    (hb : ∀ s x, Ex X W (f x (Γs s)) body (step s x) (fun s => (.nx s : Fl S (Lx S Empty))) Γs (XfL Γs fun z => z.elim)) (hr : ∀ s, Ex X W (Γs s) rest (mR s) view Γf Xf) 
    (hs : ∀ x, foldedSetIterable iter X.env x = pure x := by intro _; rfl) :
    Ex X W Γ (.For tg iter body [] pos :: rest) (mi.bind fun r => (R.fold step (items r) (s0 r)).bind mR) view Γf Xf := by
  have h := ex_for (pos := pos) (inj := fun z : Empty => z.elim) (ke := fun z : Empty => z.elim) C hi ht h0 hb hr (fun z => z.elim) (fun z => z.elim) (fun z => z.elim) hs
  have e : (fun r => (loopV (ε := Empty) (fun s => .nx s) step (items r) (s0 r)).bind (contV mR fun z => z.elim)) = fun r => (R.fold step (items r) (s0 r)).bind mR := by
    funext r
    rw [loopV_fold, R.bind_assoc]
    rfl
  rw [e] at h
  exact h
/-! ## while -/
def loopW {S ε ω : Type} (view : ω → Fl S (Lx S ε)) (c : S → R Bool) (step : S → R ω) : Nat → S → R (Fl S ε)
  | 0, _ => .bad
  | n + 1, s => (c s).bind fun b => if b then (step s).bind fun w => match view w with
      | .nx s' => loopW view c step n s'
      | .ex (.ct s') => loopW view c step n s'
      | .ex (.bk s') => .val (.nx s')
      | .ex (.ex e) => .val (.ex e)
    else .val (.nx s)
theorem ex_while (C : Cf X W sc N) {test : Expr} {body : List Stmt} {S ωb : Type} {s0 : S} {Γs : S → List Sl} {is : List Nat} {c : S → R Bool} {step : S → R ωb} (fuel : Nat)
    {mR : S → R ω} {εr : Type} {Xr : εr → Xo} {inj : εr → ω} {ke : εr → ε} {viewB : ωb → Fl S (Lx S εr)} (h0 : Γs s0 = wipeG Γ is) (hc : ∀ s, EvT X W (Γs s) test (c s) (fun b => b) (fun _ => Γs s))
    (hb : ∀ s, Ex X W (Γs s) body (step s) viewB Γs (XfL Γs Xr)) (hr : ∀ s, Ex X W (Γs s) rest (mR s) view Γf Xf) (hj : ∀ e, view (inj e) = .ex (ke e) := by intros; rfl) (hk : ∀ e, Xf (ke e) = Xr e := by intros; rfl) (hX : ∀ e, (Xr e).isRt = true := by intros; rfl) :
    Ex X W Γ (.While test body [] pos :: rest) ((loopW viewB c step fuel s0).bind (contV mR inj)) view Γf Xf := by
  refine pss_imp (pss_cons (ps_while C.pass (pt_any hc) (pss_any hb)) (pss_any hr)) fun D σ H ⟨G1, S0, p⟩ => ?_
  generalize hD' : ({ D with nx := fun σ H => ∃ s, rdS X W (Γs s) (mR s) view Γf Xf D σ H } : Ends) = D'
  have hnx : D'.nx = fun σ H => ∃ s, rdS X W (Γs s) (mR s) view Γf Xf D σ H := by rw [← hD']
  have hrt : D'.rt = D.rt := by rw [← hD']
  let cont : Fl S εr → R ω := contV mR inj
  let P : ω → Gh → Hp → Prop := fun w G' H' => Fin X.K G' H' D Γf Xf (view w)
  let Wh : Nat → St → Hp → Prop := fun m σ H => ∃ G s, Sta X.K G H σ (Γs s) ∧ PstS X W G H ((loopW viewB c step m s).bind cont) P
  show tSeq _ _ D σ H
  unfold tSeq
  show tWhile _ _ { D with nx := fun σ H => ∃ s, rdS X W (Γs s) (mR s) view Γf Xf D σ H } σ H
  rw [hD']
  refine ⟨Wh, ⟨fuel, G1, s0, by rw [h0]; exact S0.wipe is, p⟩, ?_⟩
  rintro m σ2 H2 ⟨G2, s, S2, p2⟩
  cases m with
  | zero => exact (p2 σ2).elim
  | succ m =>
    unfold loopW at p2
    rw [R.bind_assoc] at p2
    refine ⟨s, G2, S2, (PstS.bind p2).imp fun b G3 H3 e3 p3 S3 => ?_⟩
    cases b with
    | false =>
      refine itF ?_
      rw [if_neg (by simp)] at p3
      rw [hnx]
      exact ⟨s, G3, S3, p3⟩
    | true =>
      refine itT ⟨Wh m, fun σ' H' h => ⟨m, Nat.lt_succ_self m, h⟩, s, G3, S3, ?_⟩
      rw [if_pos rfl, R.bind_assoc] at p3
      refine (PstS.bindS p3).imp fun w G5 H5 e5 p5 => ?_
      cases hw : viewB w with
      | nx s' =>
        rw [hw] at p5
        exact fun σ6 S6 => ⟨G5, s', S6, p5⟩
      | ex x =>
        rw [hw] at p5
        cases x with
        | ct s' => exact fun σ6 S6 => ⟨G5, s', S6, p5⟩
        | bk s' =>
          intro σ6 S6
          show D'.nx σ6 H5
          rw [hnx]
          exact ⟨s', G5, S6, p5⟩
        | ex e =>
          have q : Fin X.K G5 H5 D Γf Xf (view (inj e)) := p5 σ2 G5 H5 (Ext.rf e5.w)
          rw [hj] at q
          have q : FinX X.K G5 H5 D (Xf (ke e)) := q
          rw [hk] at q
          exact q.rt_of (by exact hrt) (hX e)
end
end PD


set_option Elab.async false
set_option linter.all false
set_option maxRecDepth 100000
set_option maxHeartbeats 4000000
set_option autoImplicit false
namespace PD
open PySem L2
/-! ## promises -/
inductive Rs where
  | d (d : PyData)
  | f (ds : List PyData)
abbrev RN (N : Hp) : Rg := fun a o => N a = some o
def NewIn (N H H' : Hp) : Prop := ∀ a o, N a = some o → H' a = some o ∧ H a = none
def RsOk (K : PySem.W.Frag) (N H' : Hp) (Q : VK) : Rs → Prop
  | .d d => ∀ v, Dn K (RN N) H' v d → Q v H'
  | .f ds => ∀ p vs, H' p = none → DnA K (RN N) H' vs ds → Q (.ref p) (upd H' p (.lst vs))
def ExW (K : PySem.W.Frag) (mg : Str → Option Value) (H : Hp) (E : XK) (x : Exn) : Prop :=
  ∀ H' N C d fs, Same H H' → NewIn N H H' → mg x.cls = some (.ref C) → H' d = some (.xd fs) → FldsOk K (RN N) H' fs x.flds → E (.ref C) (some d) H'
/-- a def without cells -/
def spP (K : PySem.W.Frag) (mg : Str → Option Value) {τ ρ : Type} (ar : τ → List PyData) (m : τ → R ρ) (res : ρ → Rs) : Sp := fun vs H Q E => ∃ t, DnA K (RgH H) H vs (ar t) ∧ match m t with
  | .bad => False
  | .exc x => ExW K mg H E x
  | .val r => ∀ H' N, Same H H' → NewIn N H H' → RsOk K N H' Q (res r)
def Cl.fl : Cl → Bool
  | .lst ds => flat.flatA ds
  | .abs _ => true
theorem Cl.fl_ok {K : PySem.W.Frag} {G G' : Rg} {H : Hp} {v : V} {fp : List Addr} {c : Cl} (h : c.ok K G H v fp) (f : c.fl = true) : c.ok K G' H v fp := by
  cases c with
  | lst ds =>
    obtain ⟨p, vs, h1, h2, h3, h4⟩ := h
    exact ⟨p, vs, h1, h2, h3, h4.free f⟩
  | abs a => exact h
abbrev Rg0 : Rg := fun _ _ => False
/-- a def with one cell, behind the arguments of a1 -/
def spC (K : PySem.W.Frag) (mg : Str → Option Value) {τ ρ : Type} (a1 : τ → List PyData) (c : τ → Cl) (a2 : τ → List PyData) (m : τ → R ρ) (res : ρ → Rs) (c' : ρ → Cl) : Sp := fun vs H Q E =>
  ∃ t vs1 vc vs2 fp, vs = vs1 ++ vc :: vs2 ∧ (c t).ok K Rg0 H vc fp ∧ (∀ p ∈ fp, H p ≠ none) ∧ DnA K (fun a o => H a = some o ∧ a ∉ fp) H vs1 (a1 t) ∧ DnA K (fun a o => H a = some o ∧ a ∉ fp) H vs2 (a2 t) ∧ match m t with
  | .bad => False
  | .exc _ => False
  | .val r => ∀ H' N fp', (∀ a o, H a = some o → a ∉ fp → H' a = some o) → (∀ a ∈ fp, H' a ≠ none) → TupLe H H' → NewIn N H H' → (c' r).ok K (RN N) H' vc fp' → (∀ p ∈ fp', H' p ≠ none ∧ N p = none ∧ (p ∈ fp ∨ H p = none)) → RsOk K N H' Q (res r)
/-- a def that may be called here -/
def Clee (X : Cx) (x : Str) (dvs : List V) (sp : Sp) : Prop :=
  ∃ (k : Nat) (f : Addr) (fd : FuncData) (ps : List Str) (ds : List Value), FnOk X.prog X.w X.K X.mg X.base (L2.CX X.prog X.w) k f fd ps sp ∧ Room k X.A ∧ X.mg x = some (.ref f) ∧ PySem.W.keepIn X.K (.ref f) = true ∧ Binds X.K fd ps ds ∧ Vals dvs ds
/-- joined -/
def jn (N N' : Hp) : Hp := fun a => match N a with
  | some o => some o
  | none => N' a
theorem jn_left {N N' : Hp} {a : Addr} {o : HO} (h : N a = some o) : jn N N' a = some o := by unfold jn; rw [h]
theorem jn_right {N N' : Hp} {a : Addr} (h : N a = none) : jn N N' a = N' a := by unfold jn; rw [h]
theorem jn_cases {N N' : Hp} {a : Addr} {o : HO} (h : jn N N' a = some o) : N a = some o ∨ (N a = none ∧ N' a = some o) := by
  cases q : N a with
  | some u => rw [jn_left q] at h; exact .inl h
  | none => rw [jn_right q] at h; exact .inr ⟨rfl, h⟩
theorem Same.tup {H H' : Hp} (s : Same H H') : TupLe H H' := fun a xs h => h.elim (fun z => .inl (s _ _ z)) fun ⟨o, z⟩ => .inr ⟨o, s _ _ z⟩
theorem grow_call {G : Gh} {H H' N : Hp} (w : Wf G H) (s : Same H H') (n : NewIn N H H') : Grow G H (jn G.N N) H' [] ∧ RgLe (RN N) (RN (jn G.N N)) := by
  refine ⟨⟨fun a o h _ => s a o h, fun _ h => absurd h (by simp), Same.tup s, fun a o h => jn_left h, fun a o h => ?_⟩, fun a o h => ?_⟩
  · rcases jn_cases h with h | ⟨h1, h2⟩
    · exact ⟨s a o (w.new a o h).1, .inl h⟩
    · exact ⟨(n a o h2).1, .inr (n a o h2).2⟩
  · show jn G.N N a = some o
    rw [jn_right]
    · exact h
    · cases q : G.N a with
      | none => rfl
      | some u =>
        have := (w.new a u q).1
        rw [(n a o h).2] at this
        cases this
section
variable {X : Cx} {W : WX} {sc : Scope} {N : List Str} {Γ : List Sl}
/-! ## argument lists -/
theorem eva_nil : EvA X W Γ [] (R.val ()) (fun _ => []) (fun _ => Γ) :=
  pa_imp pa_nil fun σ H Q ⟨G, S, p⟩ => p G H (Ext.rf S.w) [] S .nil
theorem eva_cons {e : Expr} {es : List Expr} {α β γ : Type} {ma : R α} {ava : α → AV} {Γa : α → List Sl} {mb : α → R β} {asb : α → β → List AV} {Γb : α → β → List Sl} (kk : α → β → γ) {as : γ → List AV} {Γk : γ → List Sl}
    (ha : Ev X W Γ e ma ava Γa) (hb : ∀ x, EvA X W (Γa x) es (mb x) (asb x) (Γb x)) (h1 : ∀ x y, as (kk x y) = ava x :: asb x y := by intros; rfl) (h2 : ∀ x y, Γk (kk x y) = Γb x y := by intros; rfl)
    (hst : starEach (e :: es) X.env = (false, eval e X.env) :: starEach es X.env := by rfl) :
    EvA X W Γ (e :: es) (ma.bind fun x => (mb x).bind fun y => .val (kk x y)) as Γk := by
  refine pa_imp (pa_cons ha (pa_any hb) hst) fun σ H Q ⟨G, S, p⟩ => ?_
  refine ⟨G, S, (Pst.bind p).imp fun x G1 H1 e1 p1 v S1 a1 => ⟨x, G1, S1, (Pst.bind p1).imp fun y G2 H2 e2 p2 vs S2 a2 => ?_⟩⟩
  refine p2 G2 H2 (Ext.rf S2.w) (v :: vs) (by rw [h2]; exact S2) ?_
  rw [h1]
  exact .cons (a1.ext e2) a2
abbrev EvAP (X : Cx) (W : WX) (Γ : List Sl) (es : List Expr) (as : List AV) : Prop := EvA X W Γ es (R.val ()) (fun _ => as) (fun _ => Γ)
theorem evap_cons {e : Expr} {es : List Expr} {a : AV} {as : List AV} (ha : EvP X W Γ e a) (hb : EvAP X W Γ es as) (hst : starEach (e :: es) X.env = (false, eval e X.env) :: starEach es X.env := by rfl) : EvAP X W Γ (e :: es) (a :: as) :=
  eva_cons (fun _ _ => ()) ha (fun _ => hb) (fun _ _ => rfl) (fun _ _ => rfl) hst
/-- an argument as data: a list of one's own is lent -/
inductive ArD (Γ : List Sl) : List AV → List PyData → Prop
  | nil : ArD Γ [] []
  | d {fr : Bool} {d : PyData} {as : List AV} {ds : List PyData} : ArD Γ as ds → ArD Γ (.d fr d :: as) (d :: ds)
  | o {i : Nat} {es : List PyData} {as : List AV} {ds : List PyData} : Γ[i]? = some (.own (.lst es)) → ArD Γ as ds → ArD Γ (.s i :: as) (.list es :: ds)
  | i {i : Nat} {es : List PyData} {as : List AV} {ds : List PyData} : Γ[i]? = some (.io (.lst es)) → ArD Γ as ds → ArD Γ (.s i :: as) (.list es :: ds)
theorem Sta.lent {K : PySem.W.Frag} {G : Gh} {H : Hp} {σ : St} {Γ : List Sl} {i : Nat} {es : List PyData} {v : V} (S : Sta K G H σ Γ) (h : Γ[i]? = some (.own (.lst es)) ∨ Γ[i]? = some (.io (.lst es))) (hv : σ[i]? = some (some v)) : Dn K (RgH H) H v (.list es) := by
  rcases h with h | h
  · obtain ⟨p, vs, h1, h2, h3, _⟩ := S.change i h
    rw [hv] at h1
    cases h1
    exact .lst (.inl h2) (h3.mono (S.w.rgl true) (TupLe.rf _))
  · obtain ⟨p, vs, h1, h2, h3, _⟩ := S.changeIo i h
    rw [hv] at h1
    cases h1
    exact .lst (.inl h2) (h3.mono (S.w.rgl true) (TupLe.rf _))
theorem ArD.ok {K : PySem.W.Frag} {G : Gh} {H : Hp} {σ : St} {Γ : List Sl} (S : Sta K G H σ Γ) : ∀ {as : List AV} {ds : List PyData} {vs : List V}, ArD Γ as ds → AVs K G H σ vs as → DnA K (RgH H) H vs ds
  | _, _, _, .nil, .nil => .nil
  | _, _, _, .d r, .cons h a => .cons (S.w.dn h) (ArD.ok S r a)
  | _, _, _, .o hg r, .cons h a => .cons (S.lent (.inl hg) h) (ArD.ok S r a)
  | _, _, _, .i hg r, .cons h a => .cons (S.lent (.inr hg) h) (ArD.ok S r a)
/-- what a call without cells leaves -/
theorem call_end {K : PySem.W.Frag} {G : Gh} {H H' N' : Hp} {σ : St} {Γ : List Sl} (S : Sta K G H σ Γ) (s : Same H H') (n : NewIn N' H H') :
    ∃ G', Sta K G' H' σ Γ ∧ Ext G H G' H' ∧ RgLe (RN N') (rg G' true) := by
  obtain ⟨g, l⟩ := grow_call S.w s n
  obtain ⟨S', e⟩ := S.grow g
  exact ⟨_, S', e, l⟩
variable {x : Str} {es : List Expr} {e : Expr} {pos p : Pos} {dvs : List V} {dds : List PyData} {α τ ρ γ : Type} {ma : R α} {as : α → List AV} {Γ1 : α → List Sl} {ar : τ → List PyData} {m : τ → R ρ} {res : ρ → Rs}
theorem AVs.length {K : PySem.W.Frag} {G : Gh} {H : Hp} {σ : St} : ∀ {vs : List V} {as : List AV}, AVs K G H σ vs as → vs.length = as.length
  | _, _, .nil => rfl
  | _, _, .cons _ a => by simp [AVs.length a]
/-- f(e, ..), data out -/
theorem ev_call (C : Cf X W sc N) (hc : Clee X x dvs (spP X.K X.mg ar m res)) (hg : glB sc x = true) (ha : EvA X W Γ (e :: es) ma as Γ1) (hdv : ∀ G H, DnA X.K G H dvs dds) (tt : α → τ) (h1 : ∀ a, ∃ ds, ArD (Γ1 a) (as a) ds ∧ ds ++ dds = ar (tt a))
    (kk : α → ρ → γ) (enc : γ → PyData) (Γk : γ → List Sl) (h2 : ∀ a r, res r = .d (enc (kk a r)) := by intros; rfl) (h3 : ∀ a r, Γk (kk a r) = Γ1 a := by intros; rfl)
    (hdb : (x == ("__debug__" : Str)) = false := by decide +kernel) (he : starEach (e :: es) X.env = (false, eval e X.env) :: starEach es X.env := by rfl) (hpl : (backTo pos (starEach es X.env)).any (·.1) = false := by rfl) :
    Ev X W Γ (.Call (.Name x p) (e :: es) [] pos) (ma.bind fun a => (m (tt a)).bind fun r => .val (kk a r)) (fun z => .d true (enc z)) Γk := by
  obtain ⟨k, f, fd, ps, dss, F, hr, hm, hk, hb, hd⟩ := hc
  refine pe_imp (pe_callSD (E := fun σ cls d H => W cls d σ H) F hr (C.gl hg) hm hk hb hd (fun σ => passAt C.tk σ) ha hdb he hpl) fun σ H Q ⟨G, S, p⟩ => ?_
  refine ⟨G, S, (Pst.bind p).imp fun a G1 H1 e1 p1 vs S1 av => ?_⟩
  obtain ⟨ds, q1, q2⟩ := h1 a
  refine ⟨tt a, by rw [← q2]; exact (q1.ok S1 av).append (hdv _ _), ?_⟩
  cases hm' : m (tt a) with
  | bad => rw [hm'] at p1; exact p1
  | exc ex =>
    rw [hm'] at p1
    intro H' N' C' d fs s n g1 g2 g3
    obtain ⟨G', S', e', l⟩ := call_end S1 s n
    exact p1 G' H' C' d fs e' g1 g2 ⟨g3.1, g3.2.mono l (TupLe.rf _)⟩
  | val r =>
    rw [hm'] at p1
    intro H' N' s n
    obtain ⟨G', S', e', l⟩ := call_end S1 s n
    rw [h2 a r]
    intro v hv
    exact p1 G' H' e' v (by rw [h3]; exact S') (hv.mono l (TupLe.rf _))
/-- f(e, ..), a new list out -/
theorem evf_call (C : Cf X W sc N) (hc : Clee X x dvs (spP X.K X.mg ar m res)) (hg : glB sc x = true) (ha : EvA X W Γ (e :: es) ma as Γ1) (hdv : ∀ G H, DnA X.K G H dvs dds) (tt : α → τ) (h1 : ∀ a, ∃ ds, ArD (Γ1 a) (as a) ds ∧ ds ++ dds = ar (tt a))
    (kk : α → ρ → γ) (enc : γ → List PyData) (Γk : γ → List Sl) (h2 : ∀ a r, res r = .f (enc (kk a r)) := by intros; rfl) (h3 : ∀ a r, Γk (kk a r) = Γ1 a := by intros; rfl)
    (hdb : (x == ("__debug__" : Str)) = false := by decide +kernel) (he : starEach (e :: es) X.env = (false, eval e X.env) :: starEach es X.env := by rfl) (hpl : (backTo pos (starEach es X.env)).any (·.1) = false := by rfl) :
    EvF X W Γ (.Call (.Name x p) (e :: es) [] pos) (ma.bind fun a => (m (tt a)).bind fun r => .val (kk a r)) enc Γk := by
  obtain ⟨k, f, fd, ps, dss, F, hr, hm, hk, hb, hd⟩ := hc
  refine pe_imp (pe_callSD (E := fun σ cls d H => W cls d σ H) F hr (C.gl hg) hm hk hb hd (fun σ => passAt C.tk σ) ha hdb he hpl) fun σ H Q ⟨G, S, p⟩ => ?_
  refine ⟨G, S, (Pst.bind p).imp fun a G1 H1 e1 p1 vs S1 av => ?_⟩
  obtain ⟨ds, q1, q2⟩ := h1 a
  refine ⟨tt a, by rw [← q2]; exact (q1.ok S1 av).append (hdv _ _), ?_⟩
  cases hm' : m (tt a) with
  | bad => rw [hm'] at p1; exact p1
  | exc ex =>
    rw [hm'] at p1
    intro H' N' C' d fs s n g1 g2 g3
    obtain ⟨G', S', e', l⟩ := call_end S1 s n
    exact p1 G' H' C' d fs e' g1 g2 ⟨g3.1, g3.2.mono l (TupLe.rf _)⟩
  | val r =>
    rw [hm'] at p1
    intro H' N' s n
    obtain ⟨G', S', e', l⟩ := call_end S1 s n
    rw [h2 a r]
    intro q ws hq hd'
    exact p1 G' H' e' q ws (by rw [h3]; exact S') hq (hd'.mono l (TupLe.rf _))
end
end PD


set_option Elab.async false
set_option linter.all false
set_option maxRecDepth 100000
set_option maxHeartbeats 4000000
set_option autoImplicit false
namespace PD
open PySem L2
/-! ## a def by its body -/
def slotsOf : List Bool → List PyData → List Sl
  | f :: fs, d :: ds => .dat f d :: slotsOf fs ds
  | _, _ => []
def flOk : List Bool → List PyData → Prop
  | [], [] => True
  | f :: fs, d :: ds => (f = true → flat d = true) ∧ flOk fs ds
  | _, _ => False
theorem slots_len : ∀ {fs : List Bool} {ds : List PyData}, flOk fs ds → (slotsOf fs ds).length = ds.length
  | [], [], _ => rfl
  | [], _ :: _, h => h.elim
  | _ :: _, [], h => h.elim
  | _ :: fs, _ :: ds, h => by simp [slotsOf, slots_len h.2]
/-- data handed in, as slots; fp: what is no data's -/
theorem slots_ok {K : PySem.W.Frag} {G : Gh} {H : Hp} {g : Rg} (hg : RgLe g (rg G false)) : ∀ {fs : List Bool} {ds : List PyData} {vs : List V}, flOk fs ds → DnA K g H vs ds → ∀ (n i : Nat) (s : Sl), (slotsOf fs ds)[i]? = some s → SlOk K G H n ((vs.map some)[i]?) [] s
  | [], [], _, _, _, _, _, _, h => by simp [slotsOf] at h
  | [], _ :: _, _, f, _, _, _, _, _ => f.elim
  | _ :: _, [], _, f, _, _, _, _, _ => f.elim
  | f :: fs, d :: ds, _, hf, .cons h a, n, 0, s, e => by
    have e : some (Sl.dat f d) = some s := by simpa [slotsOf] using e
    cases e
    refine ⟨rfl, _, rfl, ?_⟩
    cases f with
    | true => exact Dn.free h (hf.1 rfl)
    | false => exact h.mono hg (TupLe.rf _)
  | f :: fs, d :: ds, v :: vs, hf, .cons h a, n, i + 1, s, e => slots_ok hg (vs := vs) hf.2 a n i s (by simpa [slotsOf] using e)
theorem start_get {N : List Str} {vs : List V} {i : Nat} (h : i < vs.length) : (L2.start N vs)[i]? = (vs.map some)[i]? := by
  unfold L2.start
  rw [List.getElem?_append_left (by simpa using h)]
def Rs.xo (io : List (Nat × Cl)) : Rs → Xo
  | .d z => .rt z io
  | .f z => .rtF z io
/-- how a block's outcomes are a def's -/
def Ends1 {ω φ ε : Type} (view : ω → Fl φ ε) (Γf : φ → List Sl) (Xf : ε → Xo) (res : ω → Rs) (io : ω → List (Nat × Cl)) : Prop :=
  ∀ w, match view w with
  | .nx f => res w = .d .none ∧ ioOk (Γf f) (io w)
  | .ex e => Xf e = (res w).xo (io w)
section
variable {P : Program} {w : World} {K : PySem.W.Frag} {mg : Str → Option Value} {base : Heap} {x qual : Str} {params : Arguments} {body : List Stmt} {scope : Scope} {dvs : List V} {kws : List (Str × V)} {f : Addr} {fd : FuncData} {N ps : List Str} {k : Nat}
/-- the contexts in which a body is judged -/
structure Here (X : Cx) (W : WX) (P : Program) (w : World) (K : PySem.W.Frag) (mg : Str → Option Value) (base : Heap) (scope : Scope) (N : List Str) (k : Nat) : Prop where
  cf : Cf X W scope N
  prog : X.prog = P
  w : X.w = w
  K : X.K = K
  mg : X.mg = mg
  base : X.base = base
  room : Room k X.A
  fn : ∀ x, X.fn x = true
theorem here_of (S : FnScope N ps scope) {cdv : Value} {A : Around} {outer : List Env} {s : Shared} {H : Hp} {E : XK} (hr : Room k (A.deeper (PyProof.Rows.envOfC qual scope s.heap.objs.size f cdv))) :
    Here (cxOf (L2.CX P w) P w K mg base N qual scope f cdv A outer s H E) (fun cls d _ H => E cls d H) P w K mg base scope N k := by
  refine ⟨⟨rfl, rfl, S.nd, rfl, takes_of rfl rfl rfl rfl, ?_, passes_of rfl, ?_⟩, rfl, rfl, rfl, rfl, rfl, hr, fun x => rfl⟩
  · have := hr.un
    show (A.deeper _).units + 64 < cLine
    omega
  · have := hr.un
    show (A.deeper _).units + 150 < cLine
    omega
theorem fn_pure (F : FunD K x qual params body scope dvs kws f fd) (S : FnScope N ps scope) {τ ω φ ε : Type} {ar : τ → List PyData} {m : τ → R ω} {res : ω → Rs} {view : ω → Fl φ ε} {Γf : φ → List Sl} {Xf : ε → Xo} (fls : List Bool) (hl : ∀ t, (ar t).length = ps.length) (hle : ps.length ≤ N.length)
    (hf : ∀ t, flOk fls (ar t)) (hres : Ends1 view Γf Xf res (fun _ => []))
    (hb : ∀ X W, Here X W P w K mg base scope N k → ∀ t, Ex X W (slotsOf fls (ar t) ++ List.replicate (N.length - ps.length) .un) body (m t) view Γf Xf) :
    FnOk P w K mg base (L2.CX P w) (k + 1) f fd ps (spP K mg ar m res) := by
  refine F.ok S (fun vs H Q E ⟨t, h, _⟩ => h.length.trans (hl t)) fun cdv A outer s H vs Q E hr hsp => ?_
  obtain ⟨t, hd, hq⟩ := hsp
  have hvl : vs.length = ps.length := hd.length.trans (hl t)
  refine ⟨_, hb _ _ (here_of S hr) t, ?_⟩
  let G : Gh := ⟨H, [], fun _ => none, fun _ => none, fun _ => none⟩
  have wf : Wf G H := ⟨fun a o h _ => h, fun a o h => (by cases h), fun a h => (by cases h), fun a h => (by cases h), fun a o h => (by cases h)⟩
  have hg : RgLe (RgH H) (rg G false) := fun a o h => .inr ⟨h, by simp [G]⟩
  have st : Sta K G H (L2.start N vs) (slotsOf fls (ar t) ++ List.replicate (N.length - ps.length) .un) := by
    have hsl : (slotsOf fls (ar t)).length = vs.length := (slots_len (hf t)).trans hd.length.symm
    refine ⟨fun _ => [], wf, ?_, fun i s h => ?_, fun i p h => by simp at h, fun i p h => by simp at h, fun i j p h => by simp at h⟩
    · rw [List.length_append, hsl]
      unfold L2.start
      simp [hvl]
    · by_cases hi : i < vs.length
      · rw [start_get hi]
        rw [List.getElem?_append_left (by rw [hsl]; exact hi)] at h
        exact slots_ok hg (hf t) hd i i s h
      · rw [List.getElem?_append_right (by rw [hsl]; omega)] at h
        have : s = .un := List.eq_of_mem_replicate (List.mem_of_getElem? h)
        subst this
        rfl
  refine ⟨G, st, fun σ => ?_⟩
  have fresh : ∀ G' H', Ext G H G' H' → Same H H' ∧ NewIn G'.N H H' := fun G' H' e => by
    refine ⟨fun a o h => e.w.keep a o (by rw [e.h0]; exact h) (by rw [e.p]; simp [G]), fun a o h => ⟨(e.w.new a o h).1, ?_⟩⟩
    have := (e.w.new a o h).2
    rw [e.h0] at this
    exact this
  cases hm : m t with
  | bad => rw [hm] at hq; exact hq
  | exc ex =>
    rw [hm] at hq
    intro G' H' C d fs e g1 g2 g3
    obtain ⟨s1, n1⟩ := fresh G' H' e
    exact hq H' G'.N C d fs s1 n1 g1 g2 g3
  | val r =>
    rw [hm] at hq
    intro G' H' e
    obtain ⟨s1, n1⟩ := fresh G' H' e
    have q := hq H' G'.N s1 n1
    have hr := hres r
    cases hv : view r with
    | nx f' =>
      rw [hv] at hr
      rw [hr.1] at q
      exact fun σ' _ => q .non .non
    | ex e' =>
      rw [hv] at hr
      show FinX _ _ _ _ _
      rw [hr]
      cases hrs : res r with
      | d d => rw [hrs] at q; exact fun σ' Γ' v _ _ hd' => q v hd'
      | f ds => rw [hrs] at q; exact fun σ' Γ' p vs' _ _ hp hd' => q p vs' hp hd'
end
/-- the same with one cell handed in, at the place n1 -/
theorem fn_cell {P : Program} {w : World} {K : PySem.W.Frag} {mg : Str → Option Value} {base : Heap} {x qual : Str} {params : Arguments} {body : List Stmt} {scope : Scope} {dvs : List V} {kws : List (Str × V)} {f : Addr} {fd : FuncData} {N ps : List Str} {k : Nat}
    (F : FunD K x qual params body scope dvs kws f fd) (S : FnScope N ps scope) {τ ω φ ε : Type} {a1 a2 : τ → List PyData} {c : τ → Cl} {m : τ → R ω} {res : ω → Rs} {c' : ω → Cl} {view : ω → Fl φ ε} {Γf : φ → List Sl} {Xf : ε → Xo} (n1 : Nat) (fl1 fl2 : List Bool)
    (hl1 : ∀ t, (a1 t).length = n1) (hl : ∀ t, n1 + 1 + (a2 t).length = ps.length) (hle : ps.length ≤ N.length) (hf1 : ∀ t, flOk fl1 (a1 t)) (hf2 : ∀ t, flOk fl2 (a2 t)) (hres : Ends1 view Γf Xf res (fun w => [(n1, c' w)]))
    (hb : ∀ X W, Here X W P w K mg base scope N k → ∀ t, Ex X W (slotsOf fl1 (a1 t) ++ .io (c t) :: (slotsOf fl2 (a2 t) ++ List.replicate (N.length - ps.length) .un)) body (m t) view Γf Xf) :
    FnOk P w K mg base (L2.CX P w) (k + 1) f fd ps (spC K mg a1 c a2 m res c') := by
  refine F.ok S (fun vs H Q E ⟨t, v1, vc, v2, fp, e, _, _, h1, h2, _⟩ => ?_) fun cdv A outer s H vs Q E hr hsp => ?_
  · rw [e, List.length_append, List.length_cons, h1.length, h2.length, hl1]
    have := hl t
    omega
  obtain ⟨t, v1, vc, v2, fp, rfl, hc, hfp, hd1, hd2, hq⟩ := hsp
  refine ⟨_, hb _ _ (here_of S hr) t, ?_⟩
  have l1 : v1.length = n1 := hd1.length.trans (hl1 t)
  have l2 : v2.length = (a2 t).length := hd2.length
  have hvl : (v1 ++ vc :: v2).length = ps.length := by
    rw [List.length_append, List.length_cons, l1, l2]
    have := hl t
    omega
  let G : Gh := ⟨H, fp, fun j => if j = n1 then some vc else none, fun _ => none, fun _ => none⟩
  have wf : Wf G H := ⟨fun a o h _ => h, fun a o h => (by cases h), fun a h => hfp a h, fun a h => hfp a h, fun a o h => (by cases h)⟩
  have hg : RgLe (fun a o => H a = some o ∧ a ∉ fp) (rg G false) := fun a o h => .inr h
  have s1 : (slotsOf fl1 (a1 t)).length = n1 := (slots_len (hf1 t)).trans (hl1 t)
  have s2 : (slotsOf fl2 (a2 t)).length = v2.length := (slots_len (hf2 t)).trans l2.symm
  have st : Sta K G H (L2.start N (v1 ++ vc :: v2)) (slotsOf fl1 (a1 t) ++ .io (c t) :: (slotsOf fl2 (a2 t) ++ List.replicate (N.length - ps.length) .un)) := by
    refine ⟨fun i => if i = n1 then fp else [], wf, ?_, fun i s h => ?_, fun i p h => ?_, fun i p h => rfl, fun i j p h1 h2 => ?_⟩
    · rw [List.length_append, List.length_cons, List.length_append, s1, s2]
      unfold L2.start
      rw [List.length_append, List.length_map, List.length_replicate, List.length_replicate, hvl]
      have := hl t
      omega
    · by_cases hi : i < n1
      · rw [if_neg (Nat.ne_of_lt hi), start_get (by rw [List.length_append, List.length_cons, l1]; omega), List.map_append, List.getElem?_append_left (by simp; omega)]
        rw [List.getElem?_append_left (by rw [s1]; exact hi)] at h
        exact slots_ok hg (hf1 t) hd1 i i s h
      · by_cases hi2 : i = n1
        · subst hi2
          rw [List.getElem?_append_right (by rw [s1]; exact Nat.le_refl _), s1, Nat.sub_self] at h
          cases h
          rw [if_pos rfl]
          refine ⟨vc, ?_, by simp [G], Cl.mono hc (fun _ _ z => z.elim) (fun _ _ => rfl) (TupLe.rf _)⟩
          rw [start_get (by rw [List.length_append, List.length_cons, l1]; omega), List.map_append, List.getElem?_append_right (by simp [l1])]
          simp [l1]
        · rw [if_neg hi2]
          rw [List.getElem?_append_right (by rw [s1]; omega), s1] at h
          obtain ⟨j, hj⟩ : ∃ j, i = n1 + 1 + j := ⟨i - (n1 + 1), by omega⟩
          subst hj
          rw [show n1 + 1 + j - n1 = j + 1 by omega, List.getElem?_cons_succ] at h
          by_cases hj2 : j < v2.length
          · rw [List.getElem?_append_left (by rw [s2]; exact hj2)] at h
            rw [start_get (by rw [List.length_append, List.length_cons, l1]; omega), List.map_append, List.getElem?_append_right (by simp [l1]; omega)]
            rw [show n1 + 1 + j - (List.map some v1).length = j + 1 by rw [List.length_map, l1]; omega, List.map_cons, List.getElem?_cons_succ]
            exact slots_ok hg (hf2 t) hd2 _ j s h
          · rw [List.getElem?_append_right (by rw [s2]; omega)] at h
            have : s = .un := List.eq_of_mem_replicate (List.mem_of_getElem? h)
            subst this
            rfl
    · by_cases hi : i = n1
      · rw [if_pos hi] at h
        exact ⟨hfp p h, rfl, .inl h⟩
      · rw [if_neg hi] at h; cases h
    · by_cases hi : i = n1
      · by_cases hj : j = n1
        · rw [hi, hj]
        · rw [if_neg hj] at h2; cases h2
      · rw [if_neg hi] at h1; cases h1
  refine ⟨G, st, fun σ => ?_⟩
  cases hm : m t with
  | bad => rw [hm] at hq; exact hq
  | exc ex => rw [hm] at hq; exact hq.elim
  | val r =>
    rw [hm] at hq
    intro G' H' e
    have h0 : G'.H0 = H := e.h0
    have hP : G'.P = fp := e.p
    -- the cell as it stands at an end
    have fin : ∀ σ' Γ', Sta K G' H' σ' Γ' → ioOk Γ' [(n1, c' r)] → RsOk K G'.N H' Q (res r) := fun σ' Γ' S' io => by
      obtain ⟨A', S'⟩ := S'
      obtain ⟨v, g1, g2, g3⟩ := S'.sl n1 _ io.1
      have : v = vc := by
        rw [e.i] at g2
        have g2 : (if n1 = n1 then some vc else none) = some v := g2
        rw [if_pos rfl] at g2
        cases g2
        rfl
      subst this
      refine hq H' G'.N (A' n1) (fun a o h hp => e.w.keep a o (by rw [h0]; exact h) (by rw [hP]; exact hp)) (fun a ha => e.w.pal a (by rw [hP]; exact ha)) e.t (fun a o h => ⟨(e.w.new a o h).1, ?_⟩) g3 (fun p hp => ?_)
      · have := (e.w.new a o h).2
        rw [h0] at this
        exact this
      · obtain ⟨q1, q2, q3⟩ := S'.al n1 p hp
        rw [hP, h0] at q3
        exact ⟨q1, q2, q3⟩
    have hr := hres r
    cases hv : view r with
    | nx f' =>
      rw [hv] at hr
      intro σ' S'
      have q := fin σ' _ S' hr.2
      rw [hr.1] at q
      exact q .non .non
    | ex e' =>
      rw [hv] at hr
      show FinX _ _ _ _ _
      rw [hr]
      cases hrs : res r with
      | d d => exact fun σ' Γ' v S' io hd' => (by have q := fin σ' Γ' S' io; rw [hrs] at q; exact q v hd')
      | f ds => exact fun σ' Γ' p vs' S' io hp hd' => (by have q := fin σ' Γ' S' io; rw [hrs] at q; exact q p vs' hp hd')
/-! ## calls with a cell -/
inductive ArC (Γ : List Sl) (c : Nat) : List AV → List PyData → Prop
  | nil : ArC Γ c [] []
  | d {fr : Bool} {d : PyData} {as : List AV} {ds : List PyData} : ArC Γ c as ds → ArC Γ c (.d fr d :: as) (d :: ds)
  | o {i : Nat} {es : List PyData} {as : List AV} {ds : List PyData} : i ≠ c → Γ[i]? = some (.own (.lst es)) → ArC Γ c as ds → ArC Γ c (.s i :: as) (.list es :: ds)
theorem Sta.cell {K : PySem.W.Frag} {G : Gh} {H : Hp} {σ : St} {Γ : List Sl} {c : Cl} (S : Sta K G H σ Γ) (i : Nat) (io : Bool) (hi : Γ[i]? = some (if io then .io c else .own c)) :
    ∃ v fp, σ[i]? = some (some v) ∧ c.ok K (RgN G) H v fp ∧ (∀ p ∈ fp, H p ≠ none) ∧ (∀ fr a o, rg G fr a o → a ∉ fp) ∧ (∀ j es p vs, j ≠ i → Γ[j]? = some (.own (.lst es)) → σ[j]? = some (some (.ref p)) → H p = some (.lst vs) → p ∉ fp) ∧
      ∀ H' N' fp' c', (∀ a o, H a = some o → a ∉ fp → H' a = some o) → (∀ a ∈ fp, H' a ≠ none) → TupLe H H' → NewIn N' H H' → c'.ok K (RN N') H' v fp' → (∀ p ∈ fp', H' p ≠ none ∧ N' p = none ∧ (p ∈ fp ∨ H p = none)) →
        ∃ G', Sta K G' H' σ (Γ.set i (if io then .io c' else .own c')) ∧ Ext G H G' H' ∧ RgLe (RN N') (rg G' true) := by
  obtain ⟨A, S⟩ := S
  have key : ∃ v, σ[i]? = some (some v) ∧ c.ok K (RgN G) H v (A i) ∧ (io = true → G.I i = some v) ∧ (io = false → ∀ p ∈ A i, G.H0 p = none) := by
    cases io with
    | true =>
      obtain ⟨v, h1, h2, h3⟩ := S.sl i _ hi
      exact ⟨v, h1, h3, fun _ => h2, fun h => by cases h⟩
    | false =>
      obtain ⟨v, h1, h2, h3⟩ := S.sl i _ hi
      exact ⟨v, h1, h3, fun h => absurd h (by simp), fun _ => h2⟩
  obtain ⟨v, h1, h2, h3, h4⟩ := key
  refine ⟨v, A i, h1, h2, fun p hp => (S.al i p hp).1, fun fr a o h hp => ?_, fun j es p vs hj hg hv hp hpi => ?_, fun H' N' fp' c' k1 k2 t n ok f => ?_⟩
  · obtain ⟨_, q1, q2⟩ := S.al i a hp
    cases fr with
    | true =>
      have h : G.N a = some o := h
      rw [q1] at h; cases h
    | false =>
      rcases h with h | ⟨h, h'⟩
      · rw [q1] at h; cases h
      · rcases q2 with q2 | q2
        · exact h' q2
        · rw [q2] at h; cases h
  · obtain ⟨v', g1, g2, p', vs', g3, g4, _⟩ := S.sl j _ hg
    rw [hv] at g1
    cases g1
    cases g3
    exact hj (S.dj j i p (by rw [g4]; simp) hpi)
  · have g : Grow G H (jn G.N N') H' (A i) := by
      refine ⟨k1, k2, t, fun a o h => jn_left h, fun a o h => ?_⟩
      rcases jn_cases h with h | ⟨_, h⟩
      · refine ⟨k1 a o (S.w.new a o h).1 fun hp => ?_, .inl h⟩
        rw [(S.al i a hp).2.1] at h; cases h
      · exact ⟨(n a o h).1, .inr (n a o h).2⟩
    have l : RgLe (RN N') (RN (jn G.N N')) := fun a o h => by
      show jn G.N N' a = some o
      rw [jn_right]
      · exact h
      · cases q : G.N a with
        | none => rfl
        | some u =>
          have := (S.w.new a u q).1
          rw [(n a o h).2] at this
          cases this
    have f2 : ∀ p ∈ fp', H' p ≠ none ∧ jn G.N N' p = none ∧ (p ∈ A i ∨ H p = none) := fun p hp => by
      obtain ⟨q1, q2, q3⟩ := f p hp
      refine ⟨q1, ?_, q3⟩
      have : G.N p = none := by
        rcases q3 with q3 | q3
        · exact (S.al i p q3).2.1
        · exact (S.w.fresh q3).1
      rw [jn_right this]
      exact q2
    obtain ⟨S', e⟩ := S.step (i := i) (fp' := fp') (s' := if io then .io c' else .own c') (σ' := σ) g (fun p hp => hp) (fun j hj => rfl) rfl (fun hlt => by
      cases io with
      | true => exact ⟨v, h1, h3 rfl, Cl.mono ok l (fun _ _ => rfl) (TupLe.rf _)⟩
      | false =>
        refine ⟨v, h1, fun p hp => ?_, Cl.mono ok l (fun _ _ => rfl) (TupLe.rf _)⟩
        rcases (f p hp).2.2 with q | q
        · exact h4 rfl p q
        · exact (S.w.fresh q).2.1) f2
    exact ⟨_, S', e, l⟩
section
variable {X : Cx} {W : WX} {sc : Scope} {N : List Str} {Γ : List Sl} {x : Str} {es : List Expr} {e : Expr} {pos p : Pos} {dvs : List V} {dds : List PyData} {α τ ρ γ : Type} {ma : R α} {as1 as2 : α → List AV} {Γ1 : α → List Sl} {a1 a2 : τ → List PyData} {c : τ → Cl} {m : τ → R ρ} {res : ρ → Rs} {c' : ρ → Cl}
theorem ArC.ok {K : PySem.W.Frag} {G : Gh} {H : Hp} {σ : St} {Γ : List Sl} {i : Nat} {fp : List Addr} (S : Sta K G H σ Γ) (hr : ∀ fr a o, rg G fr a o → a ∉ fp) (hs : ∀ j es p vs, j ≠ i → Γ[j]? = some (.own (.lst es)) → σ[j]? = some (some (.ref p)) → H p = some (.lst vs) → p ∉ fp) :
    ∀ {as : List AV} {ds : List PyData} {vs : List V}, ArC Γ i as ds → AVs K G H σ vs as → DnA K (fun a o => H a = some o ∧ a ∉ fp) H vs ds
  | _, _, _, .nil, .nil => .nil
  | _, _, _, .d r, .cons (a := .d fr _) h a => .cons (h.mono (fun b o z => ⟨S.w.rgl fr b o z, hr fr b o z⟩) (TupLe.rf _)) (ArC.ok S hr hs r a)
  | _, _, _, .o hj hg r, .cons h a => by
    refine .cons ?_ (ArC.ok S hr hs r a)
    obtain ⟨p, vs, h1, h2, h3, _⟩ := S.change _ hg
    have h : _ = _ := h
    rw [h] at h1
    cases h1
    exact .lst (.inl ⟨h2, hs _ _ p vs hj hg h h2⟩) (h3.mono (fun b o z => ⟨S.w.rgl true b o z, hr true b o z⟩) (TupLe.rf _))
theorem avs_split {K : PySem.W.Frag} {G : Gh} {H : Hp} {σ : St} : ∀ {l1 l2 : List AV} {vs : List V}, AVs K G H σ vs (l1 ++ l2) → ∃ v1 v2, vs = v1 ++ v2 ∧ AVs K G H σ v1 l1 ∧ AVs K G H σ v2 l2
  | [], _, vs, h => ⟨[], vs, rfl, .nil, h⟩
  | a :: l1, l2, _, .cons h r => by
    obtain ⟨v1, v2, rfl, q1, q2⟩ := avs_split r
    exact ⟨_ :: v1, v2, rfl, .cons h q1, q2⟩
/-- what a call with a cell asks and leaves -/
theorem callC_core (hfl : ∀ t, m t ≠ .bad → (c t).fl = true) (i : Nat) (io : Bool) (tt : α → τ) (hi : ∀ a, (Γ1 a)[i]? = some (if io then .io (c (tt a)) else .own (c (tt a)))) (h1 : ∀ a, ArC (Γ1 a) i (as1 a) (a1 (tt a))) (h2 : ∀ a, ∃ ds, ArC (Γ1 a) i (as2 a) ds ∧ ds ++ dds = a2 (tt a)) (hdv : ∀ G H, DnA X.K G H dvs dds)
    {a : α} {G : Gh} {H : Hp} {σ : St} {vs : List V} {Q : VK} {E : XK} (S : Sta X.K G H σ (Γ1 a)) (av : AVs X.K G H σ vs (as1 a ++ .s i :: as2 a))
    (post : ∀ r, m (tt a) = .val r → ∀ G' H', Ext G H G' H' → Sta X.K G' H' σ ((Γ1 a).set i (if io then .io (c' r) else .own (c' r))) → match res r with
      | .d d => ∀ v, Dn X.K (rg G' true) H' v d → Q v H'
      | .f ds => ∀ q vs, H' q = none → DnA X.K (rg G' true) H' vs ds → Q (.ref q) (upd H' q (.lst vs)))
    (hbad : m (tt a) ≠ .bad) (hexc : ∀ z, m (tt a) ≠ .exc z) : spC X.K X.mg a1 c a2 m res c' (vs ++ dvs) H Q E := by
  obtain ⟨v1, v2, rfl, q1, q2⟩ := avs_split av
  cases q2 with
  | cons hv q3 =>
    rename_i vc v3
    obtain ⟨ds, q4, q5⟩ := h2 a
    obtain ⟨v, fp, g1, g2, g3, g4, g5, g6⟩ := S.cell i io (hi a)
    have hv : σ[i]? = some (some vc) := hv
    rw [g1] at hv
    cases hv
    refine ⟨tt a, v1, vc, v3 ++ dvs, fp, by simp, Cl.fl_ok g2 (hfl _ hbad), g3, (h1 a).ok S g4 g5 q1, by rw [← q5]; exact (q4.ok S g4 g5 q3).append (hdv _ _), ?_⟩
    cases hm : m (tt a) with
    | bad => exact hbad hm
    | exc z => exact hexc z hm
    | val r =>
      intro H' N' fp' k1 k2 t n ok f
      obtain ⟨G', S', e', l⟩ := g6 H' N' fp' (c' r) k1 k2 t n ok f
      have P := post r hm G' H' e' S'
      cases hrs : res r with
      | d d => rw [hrs] at P; exact fun v hv => P v (hv.mono l (TupLe.rf _))
      | f ds => rw [hrs] at P; exact fun q ws hq hd => P q ws hq (hd.mono l (TupLe.rf _))
theorem ev_callC (C : Cf X W sc N) (hc : Clee X x dvs (spC X.K X.mg a1 c a2 m res c')) (hfl : ∀ t, m t ≠ .bad → (c t).fl = true) (hg : glB sc x = true) (i : Nat) (io : Bool) (ha : EvA X W Γ (e :: es) ma (fun a => as1 a ++ .s i :: as2 a) Γ1) (hdv : ∀ G H, DnA X.K G H dvs dds) (tt : α → τ)
    (hi : ∀ a, (Γ1 a)[i]? = some (if io then .io (c (tt a)) else .own (c (tt a)))) (h1 : ∀ a, ArC (Γ1 a) i (as1 a) (a1 (tt a))) (h2 : ∀ a, ∃ ds, ArC (Γ1 a) i (as2 a) ds ∧ ds ++ dds = a2 (tt a))
    (kk : α → ρ → γ) (enc : γ → PyData) (Γk : γ → List Sl) (h3 : ∀ a r, res r = .d (enc (kk a r)) := by intros; rfl) (h4 : ∀ a r, Γk (kk a r) = (Γ1 a).set i (if io then .io (c' r) else .own (c' r)) := by intros; rfl)
    (hdb : (x == ("__debug__" : Str)) = false := by decide +kernel) (he : starEach (e :: es) X.env = (false, eval e X.env) :: starEach es X.env := by rfl) (hpl : (backTo pos (starEach es X.env)).any (·.1) = false := by rfl)
    (hne : ∀ t z, m t ≠ .exc z) :
    Ev X W Γ (.Call (.Name x p) (e :: es) [] pos) (ma.bind fun a => (m (tt a)).bind fun r => .val (kk a r)) (fun z => .d true (enc z)) Γk := by
  obtain ⟨k, f, fd, ps, dss, F, hr, hm, hk, hb, hd⟩ := hc
  refine pe_imp (pe_callSD (E := fun σ cls d H => W cls d σ H) F hr (C.gl hg) hm hk hb hd (fun σ => passAt C.tk σ) ha hdb he hpl) fun σ H Q ⟨G, S, p⟩ => ?_
  refine ⟨G, S, (Pst.bind p).imp fun a G1 H1 e1 p1 vs S1 av => ?_⟩
  refine callC_core hfl i io tt hi h1 h2 hdv S1 av (fun r hr G' H' e' S' => ?_) (fun hb => by rw [hb] at p1; exact p1) (hne _)
  rw [hr] at p1
  rw [h3 a r]
  exact fun v hv => p1 G' H' e' v (by rw [h4]; exact S') hv
theorem evf_callC (C : Cf X W sc N) (hc : Clee X x dvs (spC X.K X.mg a1 c a2 m res c')) (hfl : ∀ t, m t ≠ .bad → (c t).fl = true) (hg : glB sc x = true) (i : Nat) (io : Bool) (ha : EvA X W Γ (e :: es) ma (fun a => as1 a ++ .s i :: as2 a) Γ1) (hdv : ∀ G H, DnA X.K G H dvs dds) (tt : α → τ)
    (hi : ∀ a, (Γ1 a)[i]? = some (if io then .io (c (tt a)) else .own (c (tt a)))) (h1 : ∀ a, ArC (Γ1 a) i (as1 a) (a1 (tt a))) (h2 : ∀ a, ∃ ds, ArC (Γ1 a) i (as2 a) ds ∧ ds ++ dds = a2 (tt a))
    (kk : α → ρ → γ) (enc : γ → List PyData) (Γk : γ → List Sl) (h3 : ∀ a r, res r = .f (enc (kk a r)) := by intros; rfl) (h4 : ∀ a r, Γk (kk a r) = (Γ1 a).set i (if io then .io (c' r) else .own (c' r)) := by intros; rfl)
    (hdb : (x == ("__debug__" : Str)) = false := by decide +kernel) (he : starEach (e :: es) X.env = (false, eval e X.env) :: starEach es X.env := by rfl) (hpl : (backTo pos (starEach es X.env)).any (·.1) = false := by rfl)
    (hne : ∀ t z, m t ≠ .exc z) :
    EvF X W Γ (.Call (.Name x p) (e :: es) [] pos) (ma.bind fun a => (m (tt a)).bind fun r => .val (kk a r)) enc Γk := by
  obtain ⟨k, f, fd, ps, dss, F, hr, hm, hk, hb, hd⟩ := hc
  refine pe_imp (pe_callSD (E := fun σ cls d H => W cls d σ H) F hr (C.gl hg) hm hk hb hd (fun σ => passAt C.tk σ) ha hdb he hpl) fun σ H Q ⟨G, S, p⟩ => ?_
  refine ⟨G, S, (Pst.bind p).imp fun a G1 H1 e1 p1 vs S1 av => ?_⟩
  refine callC_core hfl i io tt hi h1 h2 hdv S1 av (fun r hr G' H' e' S' => ?_) (fun hb => by rw [hb] at p1; exact p1) (hne _)
  rw [hr] at p1
  rw [h3 a r]
  exact fun q ws hq hd => p1 G' H' e' q ws (by rw [h4]; exact S') hq hd
end
end PD


set_option Elab.async false
set_option linter.all false
set_option maxRecDepth 100000
set_option maxHeartbeats 4000000
set_option autoImplicit false
namespace PD
open PySem L2
def R.ofO {α : Type} : Option α → R α
  | some a => .val a
  | none => .bad
def R.req (b : Bool) : R Unit := if b then .val () else .bad
section
variable {X : Cx} {W : WX} {sc : Scope} {N : List Str} {Γ : List Sl} {a b c : Expr} {pos : Pos}
/-! ## operators on pure operands -/
theorem pure_rd {r : R2} {a1 a2 a3 : AV} (hk : ∀ G H σ u v Q, Sta X.K G H σ Γ → AVok X.K G H σ u a1 → AVok X.K G H σ v a2 → (∀ G' H' w, Ext G H G' H' → Sta X.K G' H' σ Γ → AVok X.K G' H' σ w a3 → Q w H') → r u v H Q)
    {σ : St} {H : Hp} {Q : VK} (h : rdE X W Γ (R.val ()) (fun _ => a3) (fun _ => Γ) σ H Q) : tOp r (rdE X W Γ (R.val ()) (fun _ => a1) (fun _ => Γ)) (rdE X W Γ (R.val ()) (fun _ => a2) (fun _ => Γ)) σ H Q := by
  obtain ⟨G, S, p⟩ := h
  exact ⟨G, S, fun G1 H1 e1 u S1 h1 => ⟨G1, S1, fun G2 H2 e2 v S2 h2 => hk G2 H2 σ u v Q S2 (h1.ext e2) h2 fun G3 H3 w e3 S3 h3 => p G3 H3 ((e1.tr e2).tr e3) w S3 h3⟩⟩
theorem evp_bin {op : Operator} {r : R2} {a1 a2 a3 : AV} (ho : OpR X (binaryOp op) r) (ha : EvP X W Γ a a1) (hb : EvP X W Γ b a2)
    (hk : ∀ G H σ u v Q, Sta X.K G H σ Γ → AVok X.K G H σ u a1 → AVok X.K G H σ v a2 → (∀ G' H' w, Ext G H G' H' → Sta X.K G' H' σ Γ → AVok X.K G' H' σ w a3 → Q w H') → r u v H Q) : EvP X W Γ (.BinOp a op b pos) a3 :=
  pe_imp (pe_op ho ha hb) fun _ _ _ h => pure_rd hk h
theorem evp_ii {op : Operator} {g : Int → Int → Int} {f1 f2 : Bool} {i j : Int} (ho : OpR X (binaryOp op) (rI0 fun i j => .int (g i j))) (ha : EvP X W Γ a (.d f1 (.int i))) (hb : EvP X W Γ b (.d f2 (.int j))) : EvP X W Γ (.BinOp a op b pos) (.d true (.int (g i j))) :=
  evp_bin ho ha hb fun G H σ u v Q S h1 h2 k => ⟨i, j, dn_int h1, dn_int h2, k G H _ (Ext.rf S.w) S (.int _)⟩
theorem evp_add {f1 f2 : Bool} {i j : Int} (ha : EvP X W Γ a (.d f1 (.int i))) (hb : EvP X W Γ b (.d f2 (.int j))) : EvP X W Γ (.BinOp a .Add b pos) (.d true (.int (i + j))) := evp_ii op_add ha hb
theorem evp_sub {f1 f2 : Bool} {i j : Int} (ha : EvP X W Γ a (.d f1 (.int i))) (hb : EvP X W Γ b (.d f2 (.int j))) : EvP X W Γ (.BinOp a .Sub b pos) (.d true (.int (i - j))) := evp_ii op_sub ha hb
theorem evp_band {f1 f2 : Bool} {i j : Int} (ha : EvP X W Γ a (.d f1 (.int i))) (hb : EvP X W Γ b (.d f2 (.int j))) : EvP X W Γ (.BinOp a .BitAnd b pos) (.d true (.int (Builtin.bitAnd i j))) := evp_ii op_and ha hb
theorem evp_bor {f1 f2 : Bool} {i j : Int} (ha : EvP X W Γ a (.d f1 (.int i))) (hb : EvP X W Γ b (.d f2 (.int j))) : EvP X W Γ (.BinOp a .BitOr b pos) (.d true (.int (Builtin.bitOr i j))) := evp_ii op_or ha hb
theorem evp_iiC {op : Operator} {g : Int → Int → Int} {P : Int → Int → Prop} {f1 f2 : Bool} {i j : Int} (ho : OpR X (binaryOp op) (rI P fun i j => .int (g i j))) (hc : P i j) (ha : EvP X W Γ a (.d f1 (.int i))) (hb : EvP X W Γ b (.d f2 (.int j))) : EvP X W Γ (.BinOp a op b pos) (.d true (.int (g i j))) :=
  evp_bin ho ha hb fun G H σ u v Q S h1 h2 k => ⟨i, j, dn_int h1, dn_int h2, hc, k G H _ (Ext.rf S.w) S (.int _)⟩
/-- // and % by a written positive number, a power of written numbers -/
theorem evp_div {f1 f2 : Bool} {i j : Int} (hc : decide (0 < j) = true) (h9 : decide (j.natAbs.log2 < 9000) = true) (ha : EvP X W Γ a (.d f1 (.int i))) (hb : EvP X W Γ b (.d f2 (.int j))) : EvP X W Γ (.BinOp a .FloorDiv b pos) (.d true (.int (i / j))) := evp_iiC op_fdivW ⟨of_decide_eq_true hc, of_decide_eq_true h9⟩ ha hb
theorem evp_mod {f1 f2 : Bool} {i j : Int} (hc : decide (0 < j) = true) (ha : EvP X W Γ a (.d f1 (.int i))) (hb : EvP X W Γ b (.d f2 (.int j))) : EvP X W Γ (.BinOp a .Mod b pos) (.d true (.int (i % j))) := evp_iiC op_mod (of_decide_eq_true hc) ha hb
theorem evp_pow {f1 f2 : Bool} {i j : Int} (h0 : decide (0 ≤ j ∧ j ≤ 1000000 ∧ i.natAbs < 2 ^ 64) = true) (ha : EvP X W Γ a (.d f1 (.int i))) (hb : EvP X W Γ b (.d f2 (.int j))) : EvP X W Γ (.BinOp a .Pow b pos) (.d true (.int (i ^ j.toNat))) := evp_iiC op_pow (show CPow i j from of_decide_eq_true (p := 0 ≤ j ∧ j ≤ 1000000 ∧ i.natAbs < 2 ^ 64) h0) ha hb
/-- a factor that is written and small -/
theorem evp_mulL {f1 f2 : Bool} {i j : Int} (hc : decide (-(2 ^ 64) < i ∧ i < 2 ^ 64) = true) (ha : EvP X W Γ a (.d f1 (.int i))) (hb : EvP X W Γ b (.d f2 (.int j))) : EvP X W Γ (.BinOp a .Mult b pos) (.d true (.int (i * j))) := evp_iiC op_mul (.inl (of_decide_eq_true hc)) ha hb
theorem evp_mulR {f1 f2 : Bool} {i j : Int} (hc : decide (-(2 ^ 64) < j ∧ j < 2 ^ 64) = true) (ha : EvP X W Γ a (.d f1 (.int i))) (hb : EvP X W Γ b (.d f2 (.int j))) : EvP X W Γ (.BinOp a .Mult b pos) (.d true (.int (i * j))) := evp_iiC op_mul (.inr (of_decide_eq_true hc)) ha hb
/-- conditions of the other operators, as tests -/
def cMul (i j : Int) : Bool := decide (i.natAbs.log2 + j.natAbs.log2 < 1000000)
def cDiv (_ j : Int) : Bool := decide (0 < j) && decide (j.natAbs.log2 < 9000)
def cMod (_ j : Int) : Bool := decide (0 < j)
def cShl (i j : Int) : Bool := decide (0 ≤ j) && decide ((Builtin.Int.intBits i : Int) + j ≤ 2 ^ 27)
def cShr (_ j : Int) : Bool := decide (0 ≤ j)
def cPow (i j : Int) : Bool := decide (0 ≤ j ∧ j ≤ 1000000 ∧ i.natAbs < 2 ^ 64)
theorem cMul_ok (i j : Int) (h : cMul i j = true) : CMulW i j := of_decide_eq_true (p := i.natAbs.log2 + j.natAbs.log2 < 1000000) h
theorem cDiv_ok (i j : Int) (h : cDiv i j = true) : CDivW i j := by
  unfold cDiv at h
  rw [Bool.and_eq_true] at h
  exact ⟨of_decide_eq_true h.1, of_decide_eq_true h.2⟩
theorem cMod_ok (i j : Int) (h : cMod i j = true) : 0 < j := of_decide_eq_true h
theorem cShl_ok (i j : Int) (h : cShl i j = true) : CShl i j := by
  unfold cShl at h
  rw [Bool.and_eq_true] at h
  exact ⟨of_decide_eq_true h.1, of_decide_eq_true h.2⟩
theorem cShr_ok (i j : Int) (h : cShr i j = true) : 0 ≤ j := of_decide_eq_true h
theorem cPow_ok (i j : Int) (h : cPow i j = true) : CPow i j := of_decide_eq_true (p := 0 ≤ j ∧ j ≤ 1000000 ∧ i.natAbs < 2 ^ 64) h
/-! ## comparisons -/
theorem evp_cmp {op : CmpOp} {r : R2} {a1 a2 a3 : AV} (ho : OpR X (compareOp op) r) (hm : behindInMarks op b = false) (ha : EvP X W Γ a a1) (hb : EvP X W Γ b a2)
    (hk : ∀ G H σ u v Q, Sta X.K G H σ Γ → AVok X.K G H σ u a1 → AVok X.K G H σ v a2 → (∀ G' H' w, Ext G H G' H' → Sta X.K G' H' σ Γ → AVok X.K G' H' σ w a3 → Q w H') → r u v H Q) : EvP X W Γ (.Compare a [op] [b] pos) a3 :=
  pe_imp (pe_cmpR ho ha hb hm) fun _ _ _ h => pure_rd hk h
theorem evp_cb {op : CmpOp} {g : Int → Int → Bool} {f1 f2 : Bool} {i j : Int} (ho : OpR X (compareOp op) (rI0 fun i j => .bl (g i j))) (hm : behindInMarks op b = false) (ha : EvP X W Γ a (.d f1 (.int i))) (hb : EvP X W Γ b (.d f2 (.int j))) : EvP X W Γ (.Compare a [op] [b] pos) (.d true (.bool (g i j))) :=
  evp_cmp ho hm ha hb fun G H σ u v Q S h1 h2 k => ⟨i, j, dn_int h1, dn_int h2, k G H _ (Ext.rf S.w) S (.bl _)⟩
theorem evp_lt {f1 f2 : Bool} {i j : Int} (ha : EvP X W Γ a (.d f1 (.int i))) (hb : EvP X W Γ b (.d f2 (.int j))) : EvP X W Γ (.Compare a [.Lt] [b] pos) (.d true (.bool (decide (i < j)))) := evp_cb op_lt (nobehind _ (by decide) (by decide)) ha hb
theorem evp_le {f1 f2 : Bool} {i j : Int} (ha : EvP X W Γ a (.d f1 (.int i))) (hb : EvP X W Γ b (.d f2 (.int j))) : EvP X W Γ (.Compare a [.LtE] [b] pos) (.d true (.bool (decide (i ≤ j)))) := evp_cb op_le (nobehind _ (by decide) (by decide)) ha hb
theorem evp_gt {f1 f2 : Bool} {i j : Int} (ha : EvP X W Γ a (.d f1 (.int i))) (hb : EvP X W Γ b (.d f2 (.int j))) : EvP X W Γ (.Compare a [.Gt] [b] pos) (.d true (.bool (decide (j < i)))) := evp_cb op_gt (nobehind _ (by decide) (by decide)) ha hb
theorem evp_ge {f1 f2 : Bool} {i j : Int} (ha : EvP X W Γ a (.d f1 (.int i))) (hb : EvP X W Γ b (.d f2 (.int j))) : EvP X W Γ (.Compare a [.GtE] [b] pos) (.d true (.bool (decide (j ≤ i)))) := evp_cb op_ge (nobehind _ (by decide) (by decide)) ha hb
/-- == and != of data -/
inductive Rdb (Γ : List Sl) : AV → PyData → Prop
  | d {fr : Bool} {z : PyData} : Rdb Γ (.d fr z) z
  | o {i : Nat} {es : List PyData} : Γ[i]? = some (.own (.lst es)) → Rdb Γ (.s i) (.list es)
  | i {i : Nat} {es : List PyData} : Γ[i]? = some (.io (.lst es)) → Rdb Γ (.s i) (.list es)
theorem Rdb.ok {K : PySem.W.Frag} {G : Gh} {H : Hp} {σ : St} {Γ : List Sl} {a : AV} {z : PyData} {v : V} (h : Rdb Γ a z) (S : Sta K G H σ Γ) (hv : AVok K G H σ v a) : Dn K (RgH H) H v z := by
  cases h with
  | d => exact S.w.dn hv
  | o hg => exact S.lent (.inl hg) hv
  | i hg => exact S.lent (.inr hg) hv
theorem evp_eq (C : Cf X W sc N) {a1 a2 : AV} {x y : PyData} (ha : EvP X W Γ a a1) (hb : EvP X W Γ b a2) (h1 : Rdb Γ a1 x) (h2 : Rdb Γ a2 y) (s1 : SeqAt.shaped x = true) (s2 : SeqAt.shaped y = true) {z : Bool} (hz : PyData.eqv x y = z) : EvP X W Γ (.Compare a [.Eq] [b] pos) (.d true (.bool z)) := by
  subst hz
  exact evp_cmp (op_eqD C.hu) (nobehind _ (by decide) (by decide)) ha hb fun G H σ u v Q S q1 q2 k => ⟨x, y, (h1.ok S q1).dp, (h2.ok S q2).dp, s1, s2, k G H _ (Ext.rf S.w) S (.bl _)⟩
theorem evp_ne (C : Cf X W sc N) {a1 a2 : AV} {x y : PyData} (ha : EvP X W Γ a a1) (hb : EvP X W Γ b a2) (h1 : Rdb Γ a1 x) (h2 : Rdb Γ a2 y) (s1 : SeqAt.shaped x = true) (s2 : SeqAt.shaped y = true) {z : Bool} (hz : PyData.eqv x y = z) : EvP X W Γ (.Compare a [.NotEq] [b] pos) (.d true (.bool (!z))) := by
  subst hz
  exact evp_cmp (op_neD C.hu) (nobehind _ (by decide) (by decide)) ha hb fun G H σ u v Q S q1 q2 k => ⟨x, y, (h1.ok S q1).dp, (h2.ok S q2).dp, s1, s2, k G H _ (Ext.rf S.w) S (.bl _)⟩
theorem evp_eqI (C : Cf X W sc N) {f1 f2 : Bool} {i j : Int} (ha : EvP X W Γ a (.d f1 (.int i))) (hb : EvP X W Γ b (.d f2 (.int j))) : EvP X W Γ (.Compare a [.Eq] [b] pos) (.d true (.bool (decide (i = j)))) :=
  evp_eq C ha hb .d .d rfl rfl (by show (i == j) = decide (i = j); by_cases h : i = j <;> simp [h])
theorem evp_neI (C : Cf X W sc N) {f1 f2 : Bool} {i j : Int} (ha : EvP X W Γ a (.d f1 (.int i))) (hb : EvP X W Γ b (.d f2 (.int j))) : EvP X W Γ (.Compare a [.NotEq] [b] pos) (.d true (.bool (!decide (i = j)))) :=
  evp_ne C ha hb .d .d rfl rfl (by show (i == j) = decide (i = j); by_cases h : i = j <;> simp [h])
theorem evp_eqS {f1 f2 : Bool} {i j : Str} (ha : EvP X W Γ a (.d f1 (.str i))) (hb : EvP X W Γ b (.d f2 (.str j))) : EvP X W Γ (.Compare a [.Eq] [b] pos) (.d true (.bool (decide (i = j)))) :=
  evp_cmp op_eq (nobehind _ (by decide) (by decide)) ha hb fun G H σ u v Q S q1 q2 k => by
    rw [dn_str q1, dn_str q2]
    refine ⟨rfl, ?_⟩
    have e : decide (V.str i = V.str j) = decide (i = j) := by by_cases h : i = j <;> simp [h]
    rw [e]
    exact k G H _ (Ext.rf S.w) S (.bl _)
theorem evp_neS {f1 f2 : Bool} {i j : Str} (ha : EvP X W Γ a (.d f1 (.str i))) (hb : EvP X W Γ b (.d f2 (.str j))) : EvP X W Γ (.Compare a [.NotEq] [b] pos) (.d true (.bool (!decide (i = j)))) :=
  evp_cmp op_ne (nobehind _ (by decide) (by decide)) ha hb fun G H σ u v Q S q1 q2 k => by
    rw [dn_str q1, dn_str q2]
    refine ⟨rfl, ?_⟩
    have e : decide (V.str i = V.str j) = decide (i = j) := by by_cases h : i = j <;> simp [h]
    rw [e]
    exact k G H _ (Ext.rf S.w) S (.bl _)
theorem evp_eqB (C : Cf X W sc N) {f1 f2 : Bool} {i j : Bool} (ha : EvP X W Γ a (.d f1 (.bool i))) (hb : EvP X W Γ b (.d f2 (.bool j))) : EvP X W Γ (.Compare a [.Eq] [b] pos) (.d true (.bool (i == j))) :=
  evp_eq C ha hb .d .d rfl rfl rfl
theorem evp_neB (C : Cf X W sc N) {f1 f2 : Bool} {i j : Bool} (ha : EvP X W Γ a (.d f1 (.bool i))) (hb : EvP X W Γ b (.d f2 (.bool j))) : EvP X W Γ (.Compare a [.NotEq] [b] pos) (.d true (.bool (!(i == j)))) :=
  evp_ne C ha hb .d .d rfl rfl rfl
theorem evp_isN {f1 f2 : Bool} {x : PyData} {z : Bool} (ha : EvP X W Γ a (.d f1 x)) (hb : EvP X W Γ b (.d f2 .none)) (hz : (match x with | .none => true | _ => false) = z := by rfl) : EvP X W Γ (.Compare a [.Is] [b] pos) (.d true (.bool z)) := by
  subst hz
  refine evp_cmp op_isN (nobehind _ (by decide) (by decide)) ha hb fun G H σ u v Q S h1 h2 k => ⟨dn_none h2, k G H _ (Ext.rf S.w) S ?_⟩
  have h1 : Dn _ _ _ _ _ := h1
  cases h1 <;> exact .bl _
theorem evp_isnN {f1 f2 : Bool} {x : PyData} {z : Bool} (ha : EvP X W Γ a (.d f1 x)) (hb : EvP X W Γ b (.d f2 .none)) (hz : (match x with | .none => false | _ => true) = z := by rfl) : EvP X W Γ (.Compare a [.IsNot] [b] pos) (.d true (.bool z)) := by
  subst hz
  refine evp_cmp op_notN (nobehind _ (by decide) (by decide)) ha hb fun G H σ u v Q S h1 h2 k => ⟨dn_none h2, k G H _ (Ext.rf S.w) S ?_⟩
  have h1 : Dn _ _ _ _ _ := h1
  cases h1 <;> exact .bl _
/-! ## and, or, not: tests -/
def EvW (X : Cx) (W : WX) (Γ : List Sl) (e : Expr) (b : Bool) : Prop := PW X e (rdT X W Γ (R.val ()) (fun _ => b) (fun _ => Γ))
theorem EvW.t {e : Expr} {x : Bool} (h : EvW X W Γ e x) : EvTP X W Γ e x := PW.pt h
theorem evw_or1 {x : Bool} (ha : EvTP X W Γ a x) : EvW X W Γ (.BoolOp .Or [a] pos) x := pw_or1 ha
theorem evw_and1 {x : Bool} (ha : EvTP X W Γ a x) : EvW X W Γ (.BoolOp .And [a] pos) x := pw_and1 ha
theorem evw_or {rest : List Expr} {x y : Bool} (ha : EvTP X W Γ a x) (hb : EvW X W Γ (.BoolOp .Or (b :: rest) pos) y) : EvW X W Γ (.BoolOp .Or (a :: b :: rest) pos) (x || y) :=
  pw_imp (pw_or ha hb) fun σ H Q ⟨G, S, p⟩ => ⟨G, S, fun G1 H1 e1 S1 => by
    cases x with
    | true => exact itT (p G1 H1 e1 S1)
    | false => exact itF ⟨G1, S1, fun G2 H2 e2 S2 => p G2 H2 (e1.tr e2) S2⟩⟩
theorem evw_and {rest : List Expr} {x y : Bool} (ha : EvTP X W Γ a x) (hb : EvW X W Γ (.BoolOp .And (b :: rest) pos) y) : EvW X W Γ (.BoolOp .And (a :: b :: rest) pos) (x && y) :=
  pw_imp (pw_and ha hb) fun σ H Q ⟨G, S, p⟩ => ⟨G, S, fun G1 H1 e1 S1 => by
    cases x with
    | true => exact itT ⟨G1, S1, fun G2 H2 e2 S2 => p G2 H2 (e1.tr e2) S2⟩
    | false => exact itF (p G1 H1 e1 S1)⟩
theorem evt_not {x : Bool} (ha : EvTP X W Γ a x) : EvTP X W Γ (.UnaryOp .Not a pos) (!x) :=
  pt_imp (pt_not ha) fun σ H Q ⟨G, S, p⟩ => ⟨G, S, fun G1 H1 e1 S1 => p G1 H1 e1 S1⟩
theorem evt_notM {τ : Type} {m : R τ} {z : τ → Bool} {Γ1 : τ → List Sl} (ha : EvT X W Γ a m z Γ1) : EvT X W Γ (.UnaryOp .Not a pos) m (fun r => !z r) Γ1 :=
  pt_imp (pt_not ha) fun σ H Q ⟨G, S, p⟩ => ⟨G, S, p⟩
/-! ## and, or, not: values -/
theorem evv_one {op : BoolOp} {z : AV} (ha : EvP X W Γ a z) : EvP X W Γ (.BoolOp op [a] pos) z := pe_one ha
theorem evv_and {rest : List Expr} {f1 f2 : Bool} {x y : Bool} (ha : EvP X W Γ a (.d f1 (.bool x))) (hb : EvP X W Γ (.BoolOp .And (b :: rest) pos) (.d f2 (.bool y))) : EvP X W Γ (.BoolOp .And (a :: b :: rest) pos) (.d true (.bool (x && y))) :=
  pe_imp (pe_and ha hb) fun σ H Q ⟨G, S, p⟩ => ⟨G, S, fun G1 H1 e1 v S1 h1 => by
    refine ⟨x, dn_bool h1, ?_⟩
    cases x with
    | true => exact itT ⟨G1, S1, fun G2 H2 e2 v S2 h2 => p G2 H2 (e1.tr e2) v S2 (by rw [dn_bool h2]; exact .bl _)⟩
    | false => exact itF (p G1 H1 e1 _ S1 (.bl _))⟩
theorem evv_or {rest : List Expr} {f1 f2 : Bool} {x y : Bool} (ha : EvP X W Γ a (.d f1 (.bool x))) (hb : EvP X W Γ (.BoolOp .Or (b :: rest) pos) (.d f2 (.bool y))) : EvP X W Γ (.BoolOp .Or (a :: b :: rest) pos) (.d true (.bool (x || y))) :=
  pe_imp (pe_or ha hb) fun σ H Q ⟨G, S, p⟩ => ⟨G, S, fun G1 H1 e1 v S1 h1 => by
    refine ⟨x, dn_bool h1, ?_⟩
    cases x with
    | true => exact itT (p G1 H1 e1 _ S1 (.bl _))
    | false => exact itF ⟨G1, S1, fun G2 H2 e2 v S2 h2 => p G2 H2 (e1.tr e2) v S2 (by rw [dn_bool h2]; exact .bl _)⟩⟩
theorem evv_not {f1 : Bool} {x : Bool} (ha : EvP X W Γ a (.d f1 (.bool x))) : EvP X W Γ (.UnaryOp .Not a pos) (.d true (.bool (!x))) :=
  pe_imp (pe_not ha) fun σ H Q ⟨G, S, p⟩ => ⟨G, S, fun G1 H1 e1 v S1 h1 => ⟨x, dn_bool h1, p G1 H1 e1 _ S1 (.bl _)⟩⟩
theorem evp_neg {f1 : Bool} {i : Int} (ha : EvP X W Γ a (.d f1 (.int i))) : EvP X W Γ (.UnaryOp .USub a pos) (.d true (.int (-i))) :=
  pe_imp (pe_un un_neg ha) fun σ H Q ⟨G, S, p⟩ => ⟨G, S, fun G1 H1 e1 v S1 h1 => ⟨i, dn_int h1, p G1 H1 e1 _ S1 (.int _)⟩⟩
/-! ## subscripts -/
theorem atI_map {α β : Type} (f : α → β) (xs : List α) (i : Int) : atI (xs.map f) i = (atI xs i).map f := by
  unfold atI
  rw [List.length_map]
  cases ixN xs.length i with
  | none => rfl
  | some j => simp
theorem atI_dn {K : PySem.W.Frag} {G : Rg} {H : Hp} {vs : List V} {ds : List PyData} {i : Int} {d : PyData} (h : DnA K G H vs ds) (e : atI ds i = some d) : ∃ v, atI vs i = some v ∧ Dn K G H v d := by
  unfold atI at e ⊢
  rw [h.length]
  cases q : ixN ds.length i with
  | none => rw [q] at e; cases e
  | some j =>
    rw [q] at e
    exact h.get' e
/-- a[i], where the place is there -/
theorem evp_ix {fr f2 : Bool} {ds : List PyData} {i : Int} {d : PyData} (ha : EvP X W Γ a (.d fr (.list ds))) (hb : EvP X W Γ b (.d f2 (.int i))) (h : atI ds i = some d) (hs : PlainIx b := by exact fun _ _ => rfl) : EvP X W Γ (.Subscript a b pos) (.d fr d) :=
  pe_imp (pe_ix ix_list ha hb hs) fun σ H Q z => pure_rd (fun G H σ u v Q S h1 h2 k => by
    obtain ⟨p, xs, rfl, g1, g2⟩ := dn_list h1
    obtain ⟨w, g3, g4⟩ := atI_dn g2 h
    exact ⟨p, xs, i, w, rfl, dn_int h2, (g1.mono (S.w.rgl fr)).sq, g3, k G H w (Ext.rf S.w) S g4⟩) z
theorem evp_ixT {fr f2 : Bool} {ds : List PyData} {i : Int} {d : PyData} (ha : EvP X W Γ a (.d fr (.tuple ds))) (hb : EvP X W Γ b (.d f2 (.int i))) (h : atI ds i = some d) (hs : PlainIx b := by exact fun _ _ => rfl) : EvP X W Γ (.Subscript a b pos) (.d fr d) :=
  pe_imp (pe_ix ix_tup ha hb hs) fun σ H Q z => pure_rd (fun G H σ u v Q S h1 h2 k => by
    obtain ⟨p, xs, rfl, g1, g2⟩ := dn_tuple h1
    obtain ⟨w, g3, g4⟩ := atI_dn g2 h
    exact ⟨p, xs, i, w, rfl, dn_int h2, g1, g3, k G H w (Ext.rf S.w) S g4⟩) z
theorem evp_ixO {f2 : Bool} {j : Nat} {ds : List PyData} {i : Int} {d : PyData} (ha : EvP X W Γ a (.s j)) (hg : Γ[j]? = some (.own (.lst ds)) ∨ Γ[j]? = some (.io (.lst ds))) (hb : EvP X W Γ b (.d f2 (.int i))) (h : atI ds i = some d) (hs : PlainIx b := by exact fun _ _ => rfl) : EvP X W Γ (.Subscript a b pos) (.d true d) :=
  pe_imp (pe_ix ix_list ha hb hs) fun σ H Q z => pure_rd (fun G H σ u v Q S h1 h2 k => by
    have : ∃ p vs, σ[j]? = some (some (.ref p)) ∧ H p = some (.lst vs) ∧ DnA X.K (rg G true) H vs ds := by
      rcases hg with hg | hg
      · obtain ⟨p, vs, q1, q2, q3, _⟩ := S.change j hg
        exact ⟨p, vs, q1, q2, q3⟩
      · obtain ⟨p, vs, q1, q2, q3, _⟩ := S.changeIo j hg
        exact ⟨p, vs, q1, q2, q3⟩
    obtain ⟨p, vs, q1, q2, q3⟩ := this
    have h1 : σ[j]? = some (some u) := h1
    rw [q1] at h1
    cases h1
    obtain ⟨w, g3, g4⟩ := atI_dn q3 h
    exact ⟨p, vs, i, w, rfl, dn_int h2, SqL.of q2, g3, k G H w (Ext.rf S.w) S g4⟩) z
/-- where it may not be -/
theorem ev_ofO {τ : Type} {e : Expr} {o : Option τ} {av : τ → AV} (h : ∀ x, o = some x → EvP X W Γ e (av x)) : Ev X W Γ e (R.ofO o) av (fun _ => Γ) := by
  cases o with
  | none => exact ⟨fun pins s σ H Q I ⟨G, S, p⟩ => p.elim⟩
  | some x => exact h x rfl
/-- a condition that may fail -/
theorem ev_req {τ : Type} {e : Expr} {c : Bool} {m : R τ} {av : τ → AV} {Γ' : τ → List Sl} (h : c = true → Ev X W Γ e m av Γ') : Ev X W Γ e ((R.req c).bind fun _ => m) av Γ' := by
  cases c with
  | false => exact ⟨fun pins s σ H Q I ⟨G, S, p⟩ => p.elim⟩
  | true => exact h rfl
end
end PD


set_option Elab.async false
set_option linter.all false
set_option maxRecDepth 100000
set_option maxHeartbeats 4000000
set_option autoImplicit false
namespace PD
open PySem L2
inductive AllD (fr : Bool) : List AV → List PyData → Prop
  | nil : AllD fr [] []
  | cons {f : Bool} {d : PyData} {as : List AV} {ds : List PyData} (h : f = true ∨ fr = false) : AllD fr as ds → AllD fr (.d f d :: as) (d :: ds)
theorem AllD.ok {K : PySem.W.Frag} {G : Gh} {H : Hp} {σ : St} {fr : Bool} : ∀ {as : List AV} {ds : List PyData} {vs : List V}, AllD fr as ds → AVs K G H σ vs as → DnA K (rg G fr) H vs ds
  | _, _, _, .nil, .nil => .nil
  | _, _, _, .cons (f := f) h r, .cons q a => by
    refine .cons ?_ (AllD.ok r a)
    rcases h with rfl | rfl
    · exact Dn.mono (rg_le G fr) (TupLe.rf _) q
    · exact Dn.mono (rg_ff G f) (TupLe.rf _) q
/-- a new tuple, frozen at once -/
theorem Sta.newTup {K : PySem.W.Frag} {G : Gh} {H : Hp} {σ : St} {Γ : List Sl} {p : Addr} {vs : List V} {ds : List PyData} {fr : Bool} (S : Sta K G H σ Γ) (hp : H p = none) (hd : DnA K (rg G fr) H vs ds) :
    ∃ G', Sta K G' (upd H p (.tup vs)) σ Γ ∧ Ext G H G' (upd H p (.tup vs)) ∧ Dn K (rg G' fr) (upd H p (.tup vs)) (.ref p) (.tuple ds) := by
  obtain ⟨S', e⟩ := S.grow (grow_new (o := .tup vs) S.w hp)
  exact ⟨_, S', e, .tup (SqT.of upd_same) (e.dna hd)⟩
section
variable {X : Cx} {W : WX} {sc : Scope} {N : List Str} {Γ : List Sl} {e : Expr} {es : List Expr} {pos p : Pos} {α γ : Type} {ma : R α} {as : α → List AV} {Γ1 : α → List Sl}
theorem AVs.len {K : PySem.W.Frag} {G : Gh} {H : Hp} {σ : St} : ∀ {vs : List V} {as : List AV}, AVs K G H σ vs as → vs.length = as.length
  | _, _, .nil => rfl
  | _, _, .cons _ a => by simp [AVs.len a]
/-! ## displays -/
theorem ev_tup {kk : Nat} (fr : Bool) {ds : α → List PyData} (ha : EvA X W Γ es ma as Γ1) (hd : ∀ a, AllD fr (as a) (ds a)) (hn : ∀ a, decide ((as a).length ≤ sizeLine) = true) :
    Ev X W Γ (.Tuple es kk pos) ma (fun a => .d fr (.tuple (ds a))) Γ1 :=
  pe_imp (pe_tup ha) fun σ H Q ⟨G, S, p⟩ => ⟨G, S, p.impG fun a G1 H1 e1 k vs S1 av => ⟨by rw [av.len]; exact of_decide_eq_true (hn a), fun q hq => by
    obtain ⟨G2, S2, e2, h2⟩ := S1.newTup hq ((hd a).ok av)
    exact k G2 _ e2 _ S2 h2⟩⟩
theorem evp_tup {kk : Nat} (fr : Bool) {as : List AV} {ds : List PyData} (ha : EvAP X W Γ es as) (hd : AllD fr as ds) (hn : decide (as.length ≤ sizeLine) = true) : EvP X W Γ (.Tuple es kk pos) (.d fr (.tuple ds)) :=
  ev_tup fr ha (fun _ => hd) (fun _ => hn)
theorem evf_lst {ds : α → List PyData} (ha : EvA X W Γ es ma as Γ1) (hd : ∀ a, AllD true (as a) (ds a)) (hn : ∀ a, decide ((as a).length ≤ sizeLine) = true) : EvF X W Γ (.List es pos) ma ds Γ1 :=
  pe_imp (pe_lst ha) fun σ H Q ⟨G, S, p⟩ => ⟨G, S, p.imp fun a G1 H1 e1 k vs S1 av => ⟨by rw [av.len]; exact of_decide_eq_true (hn a), fun q hq => k q vs S1 hq ((hd a).ok av)⟩⟩
abbrev EvFP (X : Cx) (W : WX) (Γ : List Sl) (e : Expr) (ds : List PyData) : Prop := EvF X W Γ e (R.val ()) (fun _ => ds) (fun _ => Γ)
theorem evfp_lst {as : List AV} {ds : List PyData} (ha : EvAP X W Γ es as) (hd : AllD true as ds) (hn : decide (as.length ≤ sizeLine) = true) : EvFP X W Γ (.List es pos) ds := evf_lst ha (fun _ => hd) (fun _ => hn)
/-! ## built-ins -/
theorem ev_callB (C : Cf X W sc N) {x : Str} {id : String} {r : List V → Hp → VK → Prop} {k : α → R γ} {av : γ → AV} {Γk : γ → List Sl} (hc : CallR X (.builtin id) r) (hg : glB sc x = true) (hm : X.mg x = none) (hv : bootBuiltins x = some (.builtin id)) (ha : EvA X W Γ (e :: es) ma as Γ1)
    (hk : ∀ a G H σ vs Q, Sta X.K G H σ (Γ1 a) → AVs X.K G H σ vs (as a) → Pst X W G H σ (k a) (fun z G' H' => ∀ w, Sta X.K G' H' σ (Γk z) → AVok X.K G' H' σ w (av z) → Q w H') → r vs H Q)
    (hn : x ≠ "__name__" := by decide +kernel) (hdb : (x == ("__debug__" : Str)) = false := by decide +kernel) (he : starEach (e :: es) X.env = (false, eval e X.env) :: starEach es X.env := by rfl) (hpl : (backTo pos (starEach es X.env)).any (·.1) = false := by rfl) :
    Ev X W Γ (.Call (.Name x p) (e :: es) [] pos) (ma.bind k) av Γk :=
  pe_imp (pe_callB hc (C.gl hg) hm hv ha hn hdb he hpl) fun σ H Q ⟨G, S, p⟩ => ⟨G, S, (Pst.bind p).imp fun a G1 H1 e1 p1 vs S1 h1 => hk a G1 H1 σ vs Q S1 h1 p1⟩
theorem ev_callT (C : Cf X W sc N) {x : Str} {T : String} {r : List V → Hp → VK → Prop} {k : α → R γ} {av : γ → AV} {Γk : γ → List Sl} (hc : CallR X (.type T) r) (hg : glB sc x = true) (hm : X.mg x = none) (hv : bootBuiltins x = some (.type T)) (ha : EvA X W Γ (e :: es) ma as Γ1)
    (hk : ∀ a G H σ vs Q, Sta X.K G H σ (Γ1 a) → AVs X.K G H σ vs (as a) → Pst X W G H σ (k a) (fun z G' H' => ∀ w, Sta X.K G' H' σ (Γk z) → AVok X.K G' H' σ w (av z) → Q w H') → r vs H Q)
    (hn : x ≠ "__name__" := by decide +kernel) (hdb : (x == ("__debug__" : Str)) = false := by decide +kernel) (he : starEach (e :: es) X.env = (false, eval e X.env) :: starEach es X.env := by rfl) (hpl : (backTo pos (starEach es X.env)).any (·.1) = false := by rfl) :
    Ev X W Γ (.Call (.Name x p) (e :: es) [] pos) (ma.bind k) av Γk :=
  pe_imp (pe_callTy hc (C.gl hg) hm hv ha hn hdb he hpl) fun σ H Q ⟨G, S, p⟩ => ⟨G, S, (Pst.bind p).imp fun a G1 H1 e1 p1 vs S1 h1 => hk a G1 H1 σ vs Q S1 h1 p1⟩
theorem evf_callB (C : Cf X W sc N) {x : Str} {id : String} {r : List V → Hp → VK → Prop} {k : α → R γ} {ds : γ → List PyData} {Γk : γ → List Sl} (hc : CallR X (.builtin id) r) (hg : glB sc x = true) (hm : X.mg x = none) (hv : bootBuiltins x = some (.builtin id)) (ha : EvA X W Γ (e :: es) ma as Γ1)
    (hk : ∀ a G H σ vs Q, Sta X.K G H σ (Γ1 a) → AVs X.K G H σ vs (as a) → Pst X W G H σ (k a) (fun z G' H' => ∀ q ws, Sta X.K G' H' σ (Γk z) → H' q = none → DnA X.K (rg G' true) H' ws (ds z) → Q (.ref q) (upd H' q (.lst ws))) → r vs H Q)
    (hn : x ≠ "__name__" := by decide +kernel) (hdb : (x == ("__debug__" : Str)) = false := by decide +kernel) (he : starEach (e :: es) X.env = (false, eval e X.env) :: starEach es X.env := by rfl) (hpl : (backTo pos (starEach es X.env)).any (·.1) = false := by rfl) :
    EvF X W Γ (.Call (.Name x p) (e :: es) [] pos) (ma.bind k) ds Γk :=
  pe_imp (pe_callB hc (C.gl hg) hm hv ha hn hdb he hpl) fun σ H Q ⟨G, S, p⟩ => ⟨G, S, (Pst.bind p).imp fun a G1 H1 e1 p1 vs S1 h1 => hk a G1 H1 σ vs Q S1 h1 p1⟩
theorem evf_callT (C : Cf X W sc N) {x : Str} {T : String} {r : List V → Hp → VK → Prop} {k : α → R γ} {ds : γ → List PyData} {Γk : γ → List Sl} (hc : CallR X (.type T) r) (hg : glB sc x = true) (hm : X.mg x = none) (hv : bootBuiltins x = some (.type T)) (ha : EvA X W Γ (e :: es) ma as Γ1)
    (hk : ∀ a G H σ vs Q, Sta X.K G H σ (Γ1 a) → AVs X.K G H σ vs (as a) → Pst X W G H σ (k a) (fun z G' H' => ∀ q ws, Sta X.K G' H' σ (Γk z) → H' q = none → DnA X.K (rg G' true) H' ws (ds z) → Q (.ref q) (upd H' q (.lst ws))) → r vs H Q)
    (hn : x ≠ "__name__" := by decide +kernel) (hdb : (x == ("__debug__" : Str)) = false := by decide +kernel) (he : starEach (e :: es) X.env = (false, eval e X.env) :: starEach es X.env := by rfl) (hpl : (backTo pos (starEach es X.env)).any (·.1) = false := by rfl) :
    EvF X W Γ (.Call (.Name x p) (e :: es) [] pos) (ma.bind k) ds Γk :=
  pe_imp (pe_callTy hc (C.gl hg) hm hv ha hn hdb he hpl) fun σ H Q ⟨G, S, p⟩ => ⟨G, S, (Pst.bind p).imp fun a G1 H1 e1 p1 vs S1 h1 => hk a G1 H1 σ vs Q S1 h1 p1⟩
/-- one argument's value -/
theorem avs_one {K : PySem.W.Frag} {G : Gh} {H : Hp} {σ : St} {vs : List V} {a : AV} (h : AVs K G H σ vs [a]) : ∃ v, vs = [v] ∧ AVok K G H σ v a := by
  cases h with | cons h r => cases r; exact ⟨_, rfl, h⟩
theorem avs_two {K : PySem.W.Frag} {G : Gh} {H : Hp} {σ : St} {vs : List V} {a b : AV} (h : AVs K G H σ vs [a, b]) : ∃ v u, vs = [v, u] ∧ AVok K G H σ v a ∧ AVok K G H σ u b := by
  cases h with | cons h r => cases r with | cons h2 r => cases r; exact ⟨_, _, rfl, h, h2⟩
/-- len(x) of a list or a tuple -/
theorem evp_len (C : Cf X W sc N) {a : AV} {ds : List PyData} {n : Int} (hm : X.mg "len" = none) (hg : glB sc "len" = true) (ha : EvP X W Γ e a) (hr : Rdb Γ a (.list ds)) (hn : (ds.length : Int) = n) (hst : starEach [e] X.env = (false, eval e X.env) :: starEach [] X.env := by rfl) :
    EvP X W Γ (.Call (.Name "len" p) [e] [] pos) (.d true (.int n)) :=
  ev_callB (k := fun _ => R.val ()) (Γk := fun _ => Γ) (av := fun _ => .d true (.int n)) C call_len_seq hg hm PySem.boot_len (evap_cons ha eva_nil hst) (fun _ G H σ vs Q S h k => by
    obtain ⟨v, rfl, h'⟩ := avs_one h
    obtain ⟨q, xs, rfl, h1, h2⟩ := dn_list (hr.ok S h')
    exact ⟨q, xs, rfl, .inl h1.sq, k G H (Ext.rf S.w) _ S (by rw [h2.length, hn]; exact .int _)⟩) (by decide +kernel) (by decide +kernel) hst
theorem evp_lenT (C : Cf X W sc N) {fr : Bool} {ds : List PyData} {n : Int} (hm : X.mg "len" = none) (hg : glB sc "len" = true) (ha : EvP X W Γ e (.d fr (.tuple ds))) (hn : (ds.length : Int) = n) (hst : starEach [e] X.env = (false, eval e X.env) :: starEach [] X.env := by rfl) :
    EvP X W Γ (.Call (.Name "len" p) [e] [] pos) (.d true (.int n)) :=
  ev_callB (k := fun _ => R.val ()) (Γk := fun _ => Γ) (av := fun _ => .d true (.int n)) C call_len_seq hg hm PySem.boot_len (evap_cons ha eva_nil hst) (fun _ G H σ vs Q S h k => by
    obtain ⟨v, rfl, h'⟩ := avs_one h
    obtain ⟨q, xs, rfl, h1, h2⟩ := dn_tuple h'
    exact ⟨q, xs, rfl, .inr h1, k G H (Ext.rf S.w) _ S (by rw [h2.length, hn]; exact .int _)⟩) (by decide +kernel) (by decide +kernel) hst
/-- max, min of two -/
def max2 (i j : Int) : Int := if j > i then j else i
def min2 (i j : Int) : Int := if j < i then j else i
theorem ev_max2 (C : Cf X W sc N) {f1 f2 : Bool} {fa fb : α → Int} (hm : X.mg "max" = none) (hg : glB sc "max" = true) (ha : EvA X W Γ (e :: es) ma (fun a => [.d f1 (.int (fa a)), .d f2 (.int (fb a))]) Γ1) (kk : α → γ) (fk : γ → Int) (Γk : γ → List Sl)
    (h1 : ∀ a, fk (kk a) = max2 (fa a) (fb a) := by intros; rfl) (h2 : ∀ a, Γk (kk a) = Γ1 a := by intros; rfl) (he : starEach (e :: es) X.env = (false, eval e X.env) :: starEach es X.env := by rfl) (hpl : (backTo pos (starEach es X.env)).any (·.1) = false := by rfl) :
    Ev X W Γ (.Call (.Name "max" p) (e :: es) [] pos) (ma.bind fun a => .val (kk a)) (fun z => .d true (.int (fk z))) Γk :=
  ev_callB C (call_max2 C.calm) hg hm PyProof.Rows.boot_max ha (fun a G H σ vs Q S h k => by
    obtain ⟨v, u, rfl, q1, q2⟩ := avs_two h
    refine ⟨fa a, fb a, by rw [dn_int q1, dn_int q2], k G H (Ext.rf S.w) _ (by rw [h2]; exact S) ?_⟩
    show Dn _ _ _ _ _
    rw [h1]
    exact .int _) (by decide +kernel) (by decide +kernel) he hpl
theorem ev_min2 (C : Cf X W sc N) {f1 f2 : Bool} {fa fb : α → Int} (hm : X.mg "min" = none) (hg : glB sc "min" = true) (ha : EvA X W Γ (e :: es) ma (fun a => [.d f1 (.int (fa a)), .d f2 (.int (fb a))]) Γ1) (kk : α → γ) (fk : γ → Int) (Γk : γ → List Sl)
    (h1 : ∀ a, fk (kk a) = min2 (fa a) (fb a) := by intros; rfl) (h2 : ∀ a, Γk (kk a) = Γ1 a := by intros; rfl) (he : starEach (e :: es) X.env = (false, eval e X.env) :: starEach es X.env := by rfl) (hpl : (backTo pos (starEach es X.env)).any (·.1) = false := by rfl) :
    Ev X W Γ (.Call (.Name "min" p) (e :: es) [] pos) (ma.bind fun a => .val (kk a)) (fun z => .d true (.int (fk z))) Γk :=
  ev_callB C (call_min2 C.calm) hg hm (by decide +kernel) ha (fun a G H σ vs Q S h k => by
    obtain ⟨v, u, rfl, q1, q2⟩ := avs_two h
    refine ⟨fa a, fb a, by rw [dn_int q1, dn_int q2], k G H (Ext.rf S.w) _ (by rw [h2]; exact S) ?_⟩
    show Dn _ _ _ _ _
    rw [h1]
    exact .int _) (by decide +kernel) (by decide +kernel) he hpl
/-- int(flag) -/
def b2n (b : Bool) : Int := if b then 1 else 0
theorem ev_intB (C : Cf X W sc N) {f1 : Bool} {fa : α → Bool} (hm : X.mg "int" = none) (hg : glB sc "int" = true) (ha : EvA X W Γ [e] ma (fun a => [.d f1 (.bool (fa a))]) Γ1) (kk : α → γ) (fk : γ → Int) (Γk : γ → List Sl)
    (h1 : ∀ a, fk (kk a) = b2n (fa a) := by intros; rfl) (h2 : ∀ a, Γk (kk a) = Γ1 a := by intros; rfl) (he : starEach [e] X.env = (false, eval e X.env) :: starEach [] X.env := by rfl) :
    Ev X W Γ (.Call (.Name "int" p) [e] [] pos) (ma.bind fun a => .val (kk a)) (fun z => .d true (.int (fk z))) Γk :=
  ev_callT C call_int1 hg hm PyProof.Rows.boot_int ha (fun a G H σ vs Q S h k => by
    obtain ⟨v, rfl, q1⟩ := avs_one h
    refine .inr ⟨fa a, by rw [dn_bool q1], k G H (Ext.rf S.w) _ (by rw [h2]; exact S) ?_⟩
    show Dn _ _ _ _ _
    rw [h1]
    exact .int _) (by decide +kernel) (by decide +kernel) he
/-- isinstance(x, T), T a built-in class -/
def pyTy : PyData → String
  | .none => "NoneType"
  | .bool _ => "bool"
  | .int _ => "int"
  | .str _ => "str"
  | .list _ => "list"
  | .tuple _ => "tuple"
  | .dict _ => "dict"
theorem dn_ty {K : PySem.W.Frag} {H : Hp} {v : V} {d : PyData} (h : Dn K (RgH H) H v d) : TyX K H v (.type (pyTy d)) := by
  cases h with
  | non => exact .base .non
  | bl b => exact .base (.bl b)
  | int i => exact .base (.int i)
  | str x => exact .base (.str x)
  | lst h _ =>
    rcases h.sq with (h | ⟨o, h⟩) | ⟨o, its, n, h1, h2, _⟩
    · exact .base (.lst h)
    · exact .base (.frz h)
    · exact .kList h1 h2
  | tup h _ =>
    rcases h with (h | ⟨o, h⟩) | ⟨o, its, n, h1, h2, _⟩
    · exact .base (.tup h)
    · exact .fTuple h
    · exact .kTuple h1 h2
theorem evp_isi (C : Cf X W sc N) {a : AV} {d : PyData} {T : Str} {n : String} {z : Bool} {p2 : Pos} (hm : X.mg "isinstance" = none) (hg : glB sc "isinstance" = true) (hmT : X.mg T = none) (hgT : glB sc T = true) (hv : bootBuiltins T = some (.type n)) (ha : EvP X W Γ e a) (hr : Rdb Γ a d) (hz : kitB (pyTy d) n = some z)
    (hnT : T ≠ "__name__" := by decide +kernel) (hdT : (T == ("__debug__" : Str)) = false := by decide +kernel) (hst : starEach [e, .Name T p2] X.env = (false, eval e X.env) :: starEach [.Name T p2] X.env := by rfl) (hst2 : starEach [.Name T p2] X.env = (false, eval (.Name T p2) X.env) :: starEach [] X.env := by rfl) :
    EvP X W Γ (.Call (.Name "isinstance" p) [e, .Name T p2] [] pos) (.d true (.bool z)) := by
  have hT : PE X (.Name T p2) (tC (.ty n)) := pe_bltn (C.gl hgT) hmT hv rfl hnT hdT
  refine pe_imp (pe_callB call_isi (C.gl hg) hm PyProof.Rows.boot_isinstance (pa_cons ha (pa_cons hT pa_nil hst2) hst) (by decide +kernel) (by decide +kernel) hst (by rw [hst2]; rfl)) fun σ H Q ⟨G, S, k⟩ => ⟨G, S, fun G1 H1 e1 v S1 h1 => ?_⟩
  exact ⟨v, .ty n, .type (pyTy d), .type n, z, rfl, .ty n, dn_ty (hr.ok S1 h1), kit_ty hz, k G1 H1 e1 _ S1 (.bl _)⟩
/-- tuple(xs) of a list -/
theorem ev_tuple (C : Cf X W sc N) {fr : Bool} {ds : α → List PyData} (hm : X.mg "tuple" = none) (hg : glB sc "tuple" = true) (ha : Ev X W Γ e ma (fun a => .d fr (.list (ds a))) Γ1) (he : starEach [e] X.env = (false, eval e X.env) :: starEach [] X.env := by rfl) :
    Ev X W Γ (.Call (.Name "tuple" p) [e] [] pos) ma (fun a => .d fr (.tuple (ds a))) Γ1 := by
  refine pe_imp (pe_callTy call_tuple_of (C.gl hg) hm PyProof.Rows.boot_tuple (pa_cons ha pa_nil he) (by decide +kernel) (by decide +kernel) he rfl) fun σ H Q ⟨G, S, p⟩ => ⟨G, S, p.impG fun a G1 H1 e1 k v S1 h1 => ?_⟩
  obtain ⟨q, xs, rfl, g1, g2⟩ := dn_list h1
  refine ⟨q, xs, rfl, .inl ⟨(g1.mono (S1.w.rgl fr)).sq, fun l hl => ?_⟩⟩
  obtain ⟨G2, S2, e2, h2⟩ := S1.newTup hl g2
  exact k G2 _ e2 _ S2 h2
theorem evp_tupleO (C : Cf X W sc N) {i : Nat} {ds : List PyData} (hm : X.mg "tuple" = none) (hg : glB sc "tuple" = true) (ha : EvP X W Γ e (.s i)) (hi : Γ[i]? = some (.own (.lst ds))) (he : starEach [e] X.env = (false, eval e X.env) :: starEach [] X.env := by rfl) :
    EvP X W Γ (.Call (.Name "tuple" p) [e] [] pos) (.d true (.tuple ds)) := by
  refine pe_imp (pe_callTy call_tuple_of (C.gl hg) hm PyProof.Rows.boot_tuple (pa_cons ha pa_nil he) (by decide +kernel) (by decide +kernel) he rfl) fun σ H Q ⟨G, S, k⟩ => ⟨G, S, fun G1 H1 e1 v S1 h1 => ?_⟩
  obtain ⟨q, vs, g1, g2, g3, _⟩ := S1.change i hi
  have h1 : σ[i]? = some (some v) := h1
  rw [g1] at h1
  cases h1
  refine ⟨q, vs, rfl, .inl ⟨SqL.of g2, fun l hl => ?_⟩⟩
  obtain ⟨G2, S2, e2, h2⟩ := S1.newTup hl g3
  exact k G2 _ (e1.tr e2) _ S2 h2
/-- list(xs): a copy; what it holds is new or holds no list -/
theorem evf_list (C : Cf X W sc N) {ds : α → List PyData} (hm : X.mg "list" = none) (hg : glB sc "list" = true) (ha : Ev X W Γ e ma (fun a => .d true (.list (ds a))) Γ1) (he : starEach [e] X.env = (false, eval e X.env) :: starEach [] X.env := by rfl) :
    EvF X W Γ (.Call (.Name "list" p) [e] [] pos) ma ds Γ1 := by
  refine pe_imp (pe_callTy call_list_of (C.gl hg) hm PyProof.Rows.boot_list (pa_cons ha pa_nil he) (by decide +kernel) (by decide +kernel) he rfl) fun σ H Q ⟨G, S, p⟩ => ⟨G, S, p.imp fun a G1 H1 e1 k v S1 h1 => ?_⟩
  obtain ⟨q, xs, rfl, g1, g2⟩ := dn_list h1
  exact ⟨q, xs, rfl, .inl (g1.mono (S1.w.rgl true)).sq, fun l hl => k l xs S1 hl g2⟩
theorem evf_listA (C : Cf X W sc N) {fr : Bool} {ds : α → List PyData} (hm : X.mg "list" = none) (hg : glB sc "list" = true) (ha : Ev X W Γ e ma (fun a => .d fr (.list (ds a))) Γ1) (hf : ∀ a, flat.flatA (ds a) = true) (he : starEach [e] X.env = (false, eval e X.env) :: starEach [] X.env := by rfl) :
    EvF X W Γ (.Call (.Name "list" p) [e] [] pos) ma ds Γ1 := by
  refine pe_imp (pe_callTy call_list_of (C.gl hg) hm PyProof.Rows.boot_list (pa_cons ha pa_nil he) (by decide +kernel) (by decide +kernel) he rfl) fun σ H Q ⟨G, S, p⟩ => ⟨G, S, p.imp fun a G1 H1 e1 k v S1 h1 => ?_⟩
  obtain ⟨q, xs, rfl, g1, g2⟩ := dn_list h1
  exact ⟨q, xs, rfl, .inl (g1.mono (S1.w.rgl fr)).sq, fun l hl => k l xs S1 hl (g2.free (hf a))⟩
theorem evf_listT (C : Cf X W sc N) {fr : Bool} {ds : α → List PyData} (hm : X.mg "list" = none) (hg : glB sc "list" = true) (ha : Ev X W Γ e ma (fun a => .d fr (.tuple (ds a))) Γ1) (hf : ∀ a, flat.flatA (ds a) = true) (he : starEach [e] X.env = (false, eval e X.env) :: starEach [] X.env := by rfl) :
    EvF X W Γ (.Call (.Name "list" p) [e] [] pos) ma ds Γ1 := by
  refine pe_imp (pe_callTy call_list_of (C.gl hg) hm PyProof.Rows.boot_list (pa_cons ha pa_nil he) (by decide +kernel) (by decide +kernel) he rfl) fun σ H Q ⟨G, S, p⟩ => ⟨G, S, p.imp fun a G1 H1 e1 k v S1 h1 => ?_⟩
  obtain ⟨q, xs, rfl, g1, g2⟩ := dn_tuple h1
  exact ⟨q, xs, rfl, .inr g1, fun l hl => k l xs S1 hl (g2.free (hf a))⟩
/-- all([..]), any, sum of a list -/
theorem evp_all (C : Cf X W sc N) {fr : Bool} {bs : α → List Bool} (hm : X.mg "all" = none) (hg : glB sc "all" = true) (ha : Ev X W Γ e ma (fun a => .d fr (.list ((bs a).map PyData.bool))) Γ1) (kk : α → γ) (fk : γ → Bool) (Γk : γ → List Sl)
    (h1 : ∀ a, fk (kk a) = (bs a).all id := by intros; rfl) (h2 : ∀ a, Γk (kk a) = Γ1 a := by intros; rfl) (he : starEach [e] X.env = (false, eval e X.env) :: starEach [] X.env := by rfl) :
    Ev X W Γ (.Call (.Name "all" p) [e] [] pos) (ma.bind fun a => .val (kk a)) (fun z => .d true (.bool (fk z))) Γk := by
  refine pe_imp (pe_callB (cr_all C.calm) (C.gl hg) hm PyProof.Rows.boot_all (pa_cons ha pa_nil he) (by decide +kernel) (by decide +kernel) he rfl) fun σ H Q ⟨G, S, p⟩ => ⟨G, S, (Pst.bind p).imp fun a G1 H1 e1 k v S1 q1 => ?_⟩
  obtain ⟨q, xs, rfl, g1, g2⟩ := dn_list q1
  have e := dna_bools g2
  subst e
  refine ⟨q, bs a, rfl, (g1.mono (S1.w.rgl fr)).sq, k G1 H1 (Ext.rf S1.w) _ (by rw [h2]; exact S1) ?_⟩
  show Dn _ _ _ _ _
  rw [h1]
  exact .bl _
theorem ev_sum (C : Cf X W sc N) {fr : Bool} {ns : α → List Int} (hm : X.mg "sum" = none) (hg : glB sc "sum" = true) (ha : Ev X W Γ e ma (fun a => .d fr (.list ((ns a).map PyData.int))) Γ1) (kk : α → γ) (fk : γ → Int) (Γk : γ → List Sl)
    (h1 : ∀ a, fk (kk a) = (ns a).sum := by intros; rfl) (h2 : ∀ a, Γk (kk a) = Γ1 a := by intros; rfl) (he : starEach [e] X.env = (false, eval e X.env) :: starEach [] X.env := by rfl) :
    Ev X W Γ (.Call (.Name "sum" p) [e] [] pos) (ma.bind fun a => .val (kk a)) (fun z => .d true (.int (fk z))) Γk := by
  refine pe_imp (pe_callB (cr_sum C.calm) (C.gl hg) hm (by decide +kernel) (pa_cons ha pa_nil he) (by decide +kernel) (by decide +kernel) he rfl) fun σ H Q ⟨G, S, p⟩ => ⟨G, S, (Pst.bind p).imp fun a G1 H1 e1 k v S1 q1 => ?_⟩
  obtain ⟨q, xs, rfl, g1, g2⟩ := dn_list q1
  have e := dna_ints g2
  subst e
  refine ⟨q, ns a, rfl, (g1.mono (S1.w.rgl fr)).sq, k G1 H1 (Ext.rf S1.w) _ (by rw [h2]; exact S1) ?_⟩
  show Dn _ _ _ _ _
  rw [h1]
  exact .int _
end
end PD


set_option Elab.async false
set_option linter.all false
set_option maxRecDepth 100000
set_option maxHeartbeats 4000000
set_option autoImplicit false
namespace PD
open PySem L2
/-! ## ranges -/
def rng (lo hi : Int) : List Int := (List.range (hi - lo).toNat).map fun i => lo + (i : Nat)
def cRng (lo hi : Int) : Bool := decide (-(2 ^ 62) ≤ lo ∧ lo < 2 ^ 62 ∧ -(2 ^ 62) ≤ hi ∧ hi < 2 ^ 62)
section
variable {X : Cx} {W : WX} {sc : Scope} {N : List Str} {Γ : List Sl} {tg e e2 : Expr} {pos p : Pos} {α γ : Type} {ma : R α} {as : α → List AV} {Γ1 : α → List Sl}
theorem rng_ds (lo hi : Int) : (rng lo hi).map PyData.int = (List.range (hi - lo).toNat).map fun i => PyData.int (lo + (i : Nat)) := by
  unfold rng
  rw [List.map_map]
  rfl
theorem evi_range1 (C : Cf X W sc N) {f : Bool} {hi : α → Int} (hm : X.mg "range" = none) (hg : glB sc "range" = true) (ha : EvA X W Γ [e] ma (fun r => [.d f (.int (hi r))]) Γ1) (kk : α → γ) (Γk : γ → List Sl) (hk : γ → Int)
    (h1 : ∀ r, hk (kk r) = hi r := by intros; rfl) (h2 : ∀ r, Γk (kk r) = Γ1 r := by intros; rfl) (hst : starEach [e] X.env = [(false, eval e X.env)] := by rfl) :
    EvI X W Γ tg (.Call (.Name "range" p) [e] [] pos) (ma.bind fun r => if cRng 0 (hi r) then .val (kk r) else .bad) (fun z => (rng 0 (hk z)).map PyData.int) true Γk :=
  pi_imp (pi_range1 (C.gl hg) hm ha hst) fun σ H Q ⟨G, S, p⟩ => ⟨G, S, (Pst.bind p).imp fun r G1 H1 e1 p1 vs S1 av => by
    obtain ⟨v, rfl, h⟩ := avs_one av
    cases c : cRng 0 (hi r) with
    | false => rw [if_neg (by rw [c]; simp)] at p1; exact p1.elim
    | true =>
      rw [if_pos c] at p1
      have b : -(2 ^ 62) ≤ (0 : Int) ∧ (0 : Int) < 2 ^ 62 ∧ -(2 ^ 62) ≤ hi r ∧ hi r < 2 ^ 62 := of_decide_eq_true c
      refine ⟨hi r, by rw [dn_int h], b.2.2.1, b.2.2.2, p1 G1 H1 (Ext.rf S1.w) _ (by rw [h2]; exact S1) (itd_range ?_)⟩
      show (rng 0 (hk (kk r))).map PyData.int = _
      rw [rng_ds, h1]
      simp⟩
theorem evi_range2 (C : Cf X W sc N) {f1 f2 : Bool} {lo hi : α → Int} (hm : X.mg "range" = none) (hg : glB sc "range" = true) (ha : EvA X W Γ [e, e2] ma (fun r => [.d f1 (.int (lo r)), .d f2 (.int (hi r))]) Γ1) (kk : α → γ) (Γk : γ → List Sl) (lk hk : γ → Int)
    (h0 : ∀ r, lk (kk r) = lo r := by intros; rfl) (h1 : ∀ r, hk (kk r) = hi r := by intros; rfl) (h2 : ∀ r, Γk (kk r) = Γ1 r := by intros; rfl) (hst : starEach [e, e2] X.env = [(false, eval e X.env), (false, eval e2 X.env)] := by rfl) (hst2 : starEach [e2] X.env = [(false, eval e2 X.env)] := by rfl) :
    EvI X W Γ tg (.Call (.Name "range" p) [e, e2] [] pos) (ma.bind fun r => if cRng (lo r) (hi r) then .val (kk r) else .bad) (fun z => (rng (lk z) (hk z)).map PyData.int) true Γk :=
  pi_imp (pi_range2 (C.gl hg) hm ha hst hst2) fun σ H Q ⟨G, S, p⟩ => ⟨G, S, (Pst.bind p).imp fun r G1 H1 e1 p1 vs S1 av => by
    obtain ⟨v, u, rfl, q1, q2⟩ := avs_two av
    cases c : cRng (lo r) (hi r) with
    | false => rw [if_neg (by rw [c]; simp)] at p1; exact p1.elim
    | true =>
      rw [if_pos c] at p1
      have b : -(2 ^ 62) ≤ lo r ∧ lo r < 2 ^ 62 ∧ -(2 ^ 62) ≤ hi r ∧ hi r < 2 ^ 62 := of_decide_eq_true c
      refine ⟨lo r, hi r, by rw [dn_int q1, dn_int q2], b, p1 G1 H1 (Ext.rf S1.w) _ (by rw [h2]; exact S1) (itd_range ?_)⟩
      show (rng (lk (kk r)) (hk (kk r))).map PyData.int = _
      rw [rng_ds, h1, h0]⟩
/-! ## enumerate, zip -/
theorem sta_pair {K : PySem.W.Frag} {G : Gh} {H : Hp} {σ : St} {Γ : List Sl} {T : Addr} {x y : V} {d1 d2 : PyData} {fr : Bool} (S : Sta K G H σ Γ) (hT : H T = none) (h1 : Dn K (rg G fr) H x d1) (h2 : Dn K (rg G fr) H y d2) :
    ∃ G3, Ext G H G3 (upd H T (.tup [x, y])) ∧ Sta K G3 (upd H T (.tup [x, y])) σ Γ ∧ Dn K (rg G3 fr) (upd H T (.tup [x, y])) (.ref T) (.tuple [d1, d2]) := by
  obtain ⟨G3, S3, e3, h3⟩ := S.newTup (ds := [d1, d2]) hT (.cons h1 (.cons h2 .nil))
  exact ⟨G3, e3, S3, h3⟩
def enumD (ds : List PyData) : List PyData := ds.mapIdx fun i d => .tuple [.int (i : Nat), d]
theorem itd_enum {K : PySem.W.Frag} {G : Gh} {H : Hp} {a : Addr} {xs : List V} {ds : List PyData} {fr : Bool} (h : LsR K (rg G fr) a xs) (hd : DnA K (rg G fr) H xs ds) : ItD K G H (Ite K a) (enumD ds) fr := by
  have sq : ∀ G2 H2, Le G H G2 H2 → SqL K H2 a xs := fun G2 H2 e => ((h.mono (e.rgl fr)).mono (e.w.rgl fr)).sq
  have hl := hd.length
  have hl2 : (enumD ds).length = xs.length := by unfold enumD; simp [hl]
  refine ⟨fun i G2 H2 hi e => ⟨xs, xs[i]'(by rw [hl2] at hi; exact hi), sq G2 H2 e, by simp⟩, fun i G2 H2 σ Γ v H3 hi e S y => ?_, fun G2 H2 e => ⟨xs, sq G2 H2 e, by rw [hl2]; exact Nat.le_refl _⟩⟩
  obtain ⟨T, x, rfl, hT, rfl, hy⟩ := y
  obtain ⟨d, h1, h2⟩ := (e.dna hd).get (hy xs (sq G2 _ e))
  obtain ⟨G3, e3, S3, h3⟩ := sta_pair S hT (.int (i : Nat)) h2
  refine ⟨G3, _, ?_, e3, S3, h3⟩
  unfold enumD
  rw [List.getElem?_mapIdx, h1]
  rfl
theorem evi_enum (C : Cf X W sc N) {elts : List Expr} {kk : Nat} {tpos : Pos} {fr : Bool} {ds : α → List PyData} (hm : X.mg "enumerate" = none) (hg : glB sc "enumerate" = true) (ha : Ev X W Γ e ma (fun r => .d fr (.list (ds r))) Γ1) (hst : starEach [e] X.env = [(false, eval e X.env)] := by rfl) :
    EvI X W Γ (.Tuple elts kk tpos) (.Call (.Name "enumerate" p) [e] [] pos) ma (fun r => enumD (ds r)) fr Γ1 :=
  pi_imp (pi_enum (C.gl hg) hm (pa_cons ha pa_nil (by rw [hst]; rfl)) hst) fun σ H Q ⟨G, S, p⟩ => ⟨G, S, p.imp fun r G1 H1 e1 k v S1 h => by
    obtain ⟨q, xs, rfl, g1, g2⟩ := dn_list h
    exact ⟨q, xs, rfl, (g1.mono (S1.w.rgl fr)).sq, k _ S1 (itd_enum g1 g2)⟩⟩
def zipD (ds es : List PyData) : List PyData := List.zipWith (fun d e => .tuple [d, e]) ds es
theorem itd_zip {K : PySem.W.Frag} {G : Gh} {H : Hp} {a b : Addr} {xs ys : List V} {ds es : List PyData} {fr : Bool} (h : LsR K (rg G fr) a xs) (hd : DnA K (rg G fr) H xs ds) (h' : LsR K (rg G fr) b ys) (hd' : DnA K (rg G fr) H ys es) : ItD K G H (Itz K a b) (zipD ds es) fr := by
  have sq : ∀ G2 H2, Le G H G2 H2 → SqL K H2 a xs := fun G2 H2 e => ((h.mono (e.rgl fr)).mono (e.w.rgl fr)).sq
  have sq' : ∀ G2 H2, Le G H G2 H2 → SqL K H2 b ys := fun G2 H2 e => ((h'.mono (e.rgl fr)).mono (e.w.rgl fr)).sq
  have hl := hd.length
  have hl' := hd'.length
  have hl2 : (zipD ds es).length = min xs.length ys.length := by unfold zipD; simp [hl, hl']
  refine ⟨fun i G2 H2 hi e => ?_, fun i G2 H2 σ Γ v H3 hi e S y => ?_, fun G2 H2 e => ⟨xs, ys, sq G2 H2 e, sq' G2 H2 e, by rw [hl2]; omega⟩⟩
  · rw [hl2] at hi
    exact ⟨xs, ys, xs[i]'(by omega), ys[i]'(by omega), sq G2 H2 e, sq' G2 H2 e, by simp, by simp⟩
  · obtain ⟨T, x, z, rfl, hT, rfl, hy, hy'⟩ := y
    obtain ⟨d, h1, h2⟩ := (e.dna hd).get (hy xs (sq G2 _ e))
    obtain ⟨d', h1', h2'⟩ := (e.dna hd').get (hy' ys (sq' G2 _ e))
    obtain ⟨G3, e3, S3, h3⟩ := sta_pair S hT h2 h2'
    refine ⟨G3, _, ?_, e3, S3, h3⟩
    unfold zipD
    rw [List.getElem?_zipWith, h1, h1']
theorem evi_zip (C : Cf X W sc N) {elts : List Expr} {kk : Nat} {tpos : Pos} {fr : Bool} {ds es : α → List PyData} (hm : X.mg "zip" = none) (hg : glB sc "zip" = true) (ha : EvA X W Γ [e, e2] ma (fun r => [.d fr (.list (ds r)), .d fr (.list (es r))]) Γ1)
    (hst : starEach [e, e2] X.env = [(false, eval e X.env), (false, eval e2 X.env)] := by rfl) (hst2 : starEach [e2] X.env = [(false, eval e2 X.env)] := by rfl) :
    EvI X W Γ (.Tuple elts kk tpos) (.Call (.Name "zip" p) [e, e2] [] pos) ma (fun r => zipD (ds r) (es r)) fr Γ1 :=
  pi_imp (pi_zip (C.gl hg) hm ha (by rw [hst, hst2]) (by rw [hst2]; rfl)) fun σ H Q ⟨G, S, p⟩ => ⟨G, S, p.imp fun r G1 H1 e1 k vs S1 h => by
    obtain ⟨v, u, rfl, q1, q2⟩ := avs_two h
    obtain ⟨q, xs, rfl, g1, g2⟩ := dn_list q1
    obtain ⟨q', ys, rfl, g1', g2'⟩ := dn_list q2
    exact ⟨q, q', xs, ys, rfl, (g1.mono (S1.w.rgl fr)).sq, (g1'.mono (S1.w.rgl fr)).sq, k _ S1 (itd_zip g1 g2 g1' g2')⟩⟩
end
/-! ## comprehensions -/
def R.nox {α : Type} : R α → R α
  | .exc _ => .bad
  | m => m
def compR {S α β τ ρ : Type} (tt : S → α → R τ) (bt : τ → Bool) (st : τ → S) (te : τ → α → R ρ) (se : ρ → S) (out : ρ → β) : List α → S → R (S × List β)
  | [], s => .val (s, [])
  | x :: xs, s => (tt s x).nox.bind fun t => if bt t then (te t x).nox.bind fun z => (compR tt bt st te se out xs (se z)).bind fun r => .val (r.1, out z :: r.2) else compR tt bt st te se out xs (st t)
theorem compR_cons {S α β τ ρ : Type} (tt : S → α → R τ) (bt : τ → Bool) (st : τ → S) (te : τ → α → R ρ) (se : ρ → S) (out : ρ → β) (x : α) (xs : List α) (s : S) :
    compR tt bt st te se out (x :: xs) s = (tt s x).nox.bind fun t => if bt t then (te t x).nox.bind fun z => (compR tt bt st te se out xs (se z)).bind fun r => .val (r.1, out z :: r.2) else compR tt bt st te se out xs (st t) := rfl
abbrev WF : WX := fun _ _ _ _ => False
theorem Pst.unx {X : Cx} {G : Gh} {H : Hp} {σ : St} {τ : Type} {m : R τ} {W' : WX} {X' : Cx} {P : τ → Gh → Hp → Prop} (h : Pst X W' G H σ m.nox P) : Pst X' WF G H σ m P := by
  cases m with
  | bad => exact h
  | exc x => exact h.elim
  | val r => exact h
section
variable {X : Cx} {W : WX} {sc : Scope} {N : List Str} {Γ : List Sl}
theorem Cf.blk (C : Cf X W sc N) {s : Shared} {H : Hp} {scope : Scope} {cl : List (Str × Addr)} {c : Addr} {fp : List Addr} : Cf (X.blk s H scope (compEnvC scope cl c X.env) fp) WF (relS scope sc) N := by
  refine ⟨?_, C.hN, C.nd, C.calm, takes0, C.hu, PassesOwn.never, C.hu2⟩
  show relabel scope X.env = relS scope sc
  rw [← C.hsc]
  rfl
theorem Clee.blk {x : Str} {dvs : List V} {sp : Sp} (h : Clee X x dvs sp) {s : Shared} {H : Hp} {scope : Scope} {ce : Env} {fp : List Addr} : Clee (X.blk s H scope ce fp) x dvs sp := h
theorem Sta.wipeS {K : PySem.W.Frag} {G : Gh} {H : Hp} {σ : St} {Γ : List Sl} (S : Sta K G H σ Γ) : ∀ vs : List Nat, Sta K G H (L2.wipe σ vs) (wipeG Γ vs)
  | [] => S
  | v :: vs => (Sta.wipeS S vs).blank v none
theorem wipeG_at {Γ : List Sl} : ∀ {vs : List Nat} {i : Nat}, i ∈ vs → i < Γ.length → (wipeG Γ vs)[i]? = some .un
  | v :: vs, i, h, hl => by
    have hlen : ∀ ws : List Nat, (wipeG Γ ws).length = Γ.length := fun ws => by
      induction ws with
      | nil => rfl
      | cons w ws ih => simp [wipeG, ih]
    by_cases q : i = v
    · subst q
      exact List.getElem?_set_self (by rw [hlen]; exact hl)
    · have h' : i ∈ vs := by
        rcases List.mem_cons.mp h with z | z
        · exact absurd z q
        · exact z
      show ((wipeG Γ vs).set v .un)[i]? = some .un
      rw [List.getElem?_set_ne (Ne.symm q)]
      exact wipeG_at h' hl
theorem wipe_eq {σ σ' : St} {vs ts : List Nat} (hl : σ'.length = σ.length) (h : ∀ j, j ∉ ts → σ'[j]? = σ[j]?) (hs : ∀ j ∈ ts, j ∈ vs) : wipe σ' vs = wipe σ vs := by
  have at_ : ∀ (ρ : St) (ws : List Nat) (j : Nat), j ∈ ws → j < ρ.length → (wipe ρ ws)[j]? = some none := fun ρ ws => by
    induction ws with
    | nil => intro j hj; cases hj
    | cons w ws ih =>
      intro j hj hl
      by_cases q : j = w
      · subst q
        exact List.getElem?_set_self (by rw [wipe_length]; exact hl)
      · show ((wipe ρ ws).set w none)[j]? = some none
        rw [List.getElem?_set_ne (Ne.symm q)]
        refine ih j ?_ hl
        rcases List.mem_cons.mp hj with z | z
        · exact absurd z q
        · exact z
  refine List.ext_getElem? fun j => ?_
  by_cases hj : j ∈ vs
  · by_cases hlt : j < σ.length
    · rw [at_ σ' vs j hj (by rw [hl]; exact hlt), at_ σ vs j hj hlt]
    · rw [List.getElem?_eq_none (by rw [wipe_length, hl]; omega), List.getElem?_eq_none (by rw [wipe_length]; omega)]
  · rw [wipe_out hj, wipe_out hj]
    exact h j fun z => hj (hs j z)
variable {tg iter elt : Expr} {ifs : List Expr} {scope : Scope} {own : List (Str × Nat)} {pos : Pos} {ι α β S τ ρ : Type} {mi : R ι} {enc : α → PyData} {fr : Bool} {Γi : ι → List Sl} {items : ι → List α} {ts : List Nat} {f : α → List Sl → List Sl}
  {s0 : ι → S} {Γs : S → List Sl} {tt : S → α → R τ} {bt : τ → Bool} {st : τ → S} {Γt : τ → α → List Sl} {te : τ → α → R ρ} {se : ρ → S} {out : ρ → β} {encO : β → PyData}
/-- the tests of a clause -/
def EvTs (X : Cx) (W : WX) (Γ : List Sl) (es : List Expr) {τ : Type} (m : R τ) (b : τ → Bool) (Γ' : τ → List Sl) : Prop := PTs X es (rdT X W Γ m b Γ')
theorem evts_one {e : Expr} {m : R τ} {Γ' : τ → List Sl} (h : EvT X W Γ e m bt Γ') : EvTs X W Γ [e] m bt Γ' := pts_one h
theorem evts_nil {s : τ} : EvTs X W Γ [] (R.val s) (fun _ => true) (fun _ => Γ) := ⟨fun pins s' σ H Q I ⟨G, S, p⟩ => pts_nil.run pins s' σ H Q I (p G H (Ext.rf S.w) S)⟩
def szB {α : Type} (xs : List α) : Bool := decide (xs.length ≤ sizeLine)
/-- the reading of a comprehension -/
theorem comp_rd (hi : ∀ r, Γs (s0 r) = wipeG (Γi r) (own.map (·.2))) (hts : ∀ j ∈ ts, j ∈ own.map (·.2)) (htl : ∀ t x, Γs (st t) = wipeG (Γt t x) (own.map (·.2))) {Γe : ρ → α → List Sl} (hel : ∀ z x, Γs (se z) = wipeG (Γe z x) (own.map (·.2)))
    (hun : ∀ s j, j ∈ own.map (·.2) → j < (Γs s).length → (Γs s)[j]? = some .un)
    {σ : St} {H : Hp} {Q : VK} (h : rdF X W Γ (mi.bind fun r => (R.req (szB (items r))).bind fun _ => compR tt bt st te se out (items r) (s0 r)) (fun z => z.2.map encO) (fun z => Γs z.1) σ H Q) :
    tLc (rdI X W Γ mi (fun r => (items r).map enc) fr Γi) (fun v σ H Q => ∃ G Γ x, Sta X.K G H σ Γ ∧ Dn X.K (rg G fr) H v (enc x) ∧ ∀ σ', σ'.length = σ.length → (∀ j, j ∉ ts → σ'[j]? = σ[j]?) → Sta X.K G H σ' (f x Γ) → Q σ' H)
      (fun σ H Q => ∃ z : S × α, rdT X WF (f z.2 (Γs z.1)) (tt z.1 z.2) bt (fun t => Γt t z.2) σ H Q) (fun σ H Q => ∃ z : τ × α, rdE X WF (Γt z.1 z.2) (te z.1 z.2) (fun y => .d true (encO (out y))) (fun y => Γe y z.2) σ H Q) (own.map (·.2)) σ H Q := by
  obtain ⟨G, S0, p⟩ := h
  refine ⟨G, S0, (Pst.bind p).imp fun r G1 H1 e1 p1 J S1 I D hD => ?_⟩
  generalize hvs : own.map (·.2) = vs at *
  cases hsz : szB (items r) with
  | false => rw [hsz] at p1; exact p1.elim
  | true =>
  rw [hsz] at p1
  have hsz : (items r).length ≤ sizeLine := of_decide_eq_true hsz
  have p1 : Pst X W G1 H1 σ (compR tt bt st te se out (items r) (s0 r)) fun z G' H' => ∀ q ws, Sta X.K G' H' σ (Γs z.1) → H' q = none → DnA X.K (rg G' true) H' ws (z.2.map encO) → Q (.ref q) (upd H' q (.lst ws)) := p1
  have hE0 : G1.E D = none := by
    cases q : G1.E D with
    | none => rfl
    | some u => rw [(S1.w.ex D u q).1] at hD; cases hD
  have hww : L2.wipe (L2.wipe σ vs) vs = L2.wipe σ vs := wipe_eq (ts := vs) (wipe_length ..) (fun j hj => wipe_out hj) (fun j hj => hj)
  have nol : ∀ vs' : List V, (∀ xs, HO.lst vs' ≠ .tup xs) ∧ ∀ x y, HO.lst vs' ≠ .frz x y := fun vs' => ⟨fun _ z => (by cases z), fun _ _ z => (by cases z)⟩
  let body : Nat → Hp → Prop := fun i H2 => i ≤ (items r).length ∧ ∃ G2 s vacc bs, Sta X.K G2 H2 (L2.wipe σ vs) (Γs s) ∧ Le G1 H1 G2 H2 ∧ G2.E = upd G1.E D (.lst vacc) ∧ G2.I = G1.I ∧ DnA X.K (rg G2 true) H2 vacc (bs.map encO) ∧ bs.length ≤ i ∧
    compR tt bt st te se out (items r) (s0 r) = (compR tt bt st te se out ((items r).drop i) s).bind fun z => .val (z.1, bs ++ z.2)
  refine ⟨fun i m H2 => m = (items r).length - i ∧ body i H2, ⟨_, rfl, Nat.zero_le _, ?_⟩, ?_⟩
  · have Sw : Sta X.K G1 H1 (L2.wipe σ vs) (Γs (s0 r)) := by rw [hi]; exact S1.wipeS vs
    obtain ⟨S2, t2⟩ := Sw.pin (o := .lst []) hD
    refine ⟨_, s0 r, [], [], S2, ⟨rfl, rfl, fun _ _ h => h, t2, S2.w⟩, rfl, rfl, .nil, Nat.le_refl _, ?_⟩
    rw [List.drop_zero]
    have : (fun z : S × List β => R.val (z.1, [] ++ z.2)) = fun z => R.val z := rfl
    rw [this, R.bind_val]
  · rintro i m H2 ⟨rfl, hile, G2, s, vacc, bs, S2, l2, hE2, hI2, d2, hbs, eq⟩
    have hlen : ((items r).map enc).length = (items r).length := List.length_map ..
    by_cases hlt : i < (items r).length
    · refine .inr ⟨I.go i G2 H2 (by rw [hlen]; exact hlt) l2, body (i + 1), fun H' hb => ⟨_, (by omega), rfl, hb⟩, fun v H3 y => ?_⟩
      obtain ⟨G3, d, hd, e3, S3, dn⟩ := I.yl i G2 H2 _ _ v H3 (by rw [hlen]; exact hlt) l2 S2 y
      have hx : d = enc (items r)[i] := by
        rw [List.getElem?_map, List.getElem?_eq_getElem hlt] at hd
        exact (Option.some.inj hd).symm
      subst hx
      generalize hxx : (items r)[i] = x at dn
      rw [List.drop_eq_getElem_cons hlt, hxx, compR_cons, R.bind_assoc] at eq
      refine ⟨G3, Γs s, x, S3, dn, fun σ2 l3 k3 S4 => ⟨(wipe_eq l3 k3 hts).trans hww, (s, x), G3, S4, ?_⟩⟩
      have hw2 : L2.wipe σ2 vs = L2.wipe σ vs := (wipe_eq l3 k3 hts).trans hww
      cases htt : tt s x with
      | bad => rw [htt] at eq; rw [eq] at p1; exact p1
      | exc z => rw [htt] at eq; rw [eq] at p1; exact p1.elim
      | val t =>
        rw [htt] at eq
        intro G4 H4 e4 S5
        have eq : compR tt bt st te se out (items r) (s0 r) = (if bt t = true then (te t x).nox.bind fun z => (compR tt bt st te se out ((items r).drop (i + 1)) (se z)).bind fun r => .val (r.1, out z :: r.2) else compR tt bt st te se out ((items r).drop (i + 1)) (st t)).bind fun z => .val (z.1, bs ++ z.2) := eq
        have l4 : Le G1 H1 G4 H4 := (l2.tr e3.le).tr e4.le
        have hE4 : G4.E = upd G1.E D (.lst vacc) := e4.e.trans (e3.e.trans hE2)
        have hI4 : G4.I = G1.I := e4.i.trans (e3.i.trans hI2)
        have d4 : DnA X.K (rg G4 true) H4 vacc (bs.map encO) := e4.dna (e3.dna d2)
        cases hb : bt t with
        | false =>
          refine itF ⟨hlt, G4, st t, vacc, bs, ?_, l4, hE4, hI4, d4, Nat.le_succ_of_le hbs, ?_⟩
          · rw [htl t x, ← hw2]
            exact S5.wipeS vs
          · rw [eq, if_neg (by rw [hb]; simp)]
        | true =>
          rw [if_pos hb, R.bind_assoc] at eq
          refine itT ⟨(t, x), G4, S5, ?_⟩
          cases hte : te t x with
          | bad => rw [hte] at eq; rw [eq] at p1; exact p1
          | exc z => rw [hte] at eq; rw [eq] at p1; exact p1.elim
          | val z =>
            rw [hte] at eq
            intro G5 H5 e5 yv S6 dy
            have hE5 : G5.E = upd G1.E D (.lst vacc) := e5.e.trans hE4
            obtain ⟨S7, hHD, t7⟩ := (S6.wipeS vs).unpin hE5 hE0 (nol vacc).1 (nol vacc).2
            have hal : vacc.length = bs.length := by rw [d4.length, List.length_map]
            refine ⟨vacc, hHD, by omega, ?_⟩
            obtain ⟨S8, t8⟩ := S7.pin (o := .lst (vacc ++ [yv])) del_same
            have hH : upd (PD.del H5 D) D (.lst (vacc ++ [yv])) = upd H5 D (.lst (vacc ++ [yv])) := by
              funext b
              by_cases q : b = D
              · subst q; rw [upd_same, upd_same]
              · rw [upd_ne q, upd_ne q, del_ne q]
            rw [hH] at S8 t8
            have t9 : TupLe H5 (upd H5 D (.lst (vacc ++ [yv]))) := t7.tr t8
            refine ⟨hlt, ⟨G5.H0, G5.P, G5.I, G5.N, upd G1.E D (.lst (vacc ++ [yv]))⟩, se z, vacc ++ [yv], bs ++ [out z], ?_, ⟨(l4.tr e5.le).h0, (l4.tr e5.le).p, (l4.tr e5.le).n, (l4.tr e5.le).t.tr t9, S8.w⟩, rfl, e5.i.trans hI4, ?_, ?_, ?_⟩
            · rw [hel z x, ← hw2]
              exact S8
            · rw [List.map_append]
              exact ((e5.dna d4).append (.cons dy .nil)).mono (fun _ _ h => h) t9
            · rw [List.length_append]
              show bs.length + 1 ≤ i + 1
              omega
            · rw [eq]
              show ((compR tt bt st te se out ((items r).drop (i + 1)) (se z)).bind fun r => R.val (r.1, out z :: r.2)).bind _ = _
              rw [R.bind_assoc]
              congr 1
              funext q
              show R.val (q.1, bs ++ out z :: q.2) = R.val (q.1, bs ++ [out z] ++ q.2)
              rw [List.append_assoc]
              rfl
    · have ei : i = (items r).length := by omega
      subst ei
      refine .inl ⟨by have q := I.st G2 H2 l2; rw [hlen] at q; exact q, ?_⟩
      rw [List.drop_length] at eq
      have eq : compR tt bt st te se out (items r) (s0 r) = .val (s, bs ++ []) := eq
      rw [List.append_nil] at eq
      rw [eq] at p1
      obtain ⟨S7, hHD, t7⟩ := S2.unpin hE2 hE0 (nol vacc).1 (nol vacc).2
      have P := p1 ⟨G2.H0, G2.P, G2.I, G2.N, G1.E⟩ (PD.del H2 D) ⟨l2.h0, l2.p, hI2, rfl, l2.n, l2.t.tr t7, S7.w⟩ D vacc (S7.swap (wipe_length ..).symm fun j => ?_) del_same (d2.mono (fun _ _ h => h) t7)
      · rw [del_upd hHD] at P
        exact P
      · by_cases hj : j ∈ vs
        · by_cases hjl : j < (Γs s).length
          · exact .inr (hun s j hj hjl)
          · left
            obtain ⟨A7, Z7⟩ := S7
            have : (Γs s).length = σ.length := by rw [Z7.len, wipe_length]
            rw [List.getElem?_eq_none (by omega), List.getElem?_eq_none (by rw [wipe_length]; omega)]
        · exact .inl (wipe_out hj).symm
/-- [elt for tg in iter if ..] -/
theorem evf_comp (C : Cf X W sc N) (hin : EvI X W Γ tg iter mi (fun r => (items r).map enc) fr Γi) (ok : blkC N sc scope own = true) {Γe : ρ → α → List Sl}
    (hg : ∀ (s : Shared) (H : Hp) (c : Addr) (cl : List (Str × Addr)) (fp : List Addr), Tgt (X.blk s H scope (compEnvC scope cl c X.env) fp) tg enc fr ts f)
    (ht : ∀ (s : Shared) (H : Hp) (c : Addr) (cl : List (Str × Addr)) (fp : List Addr) (z : S) (x : α), EvTs (X.blk s H scope (compEnvC scope cl c X.env) fp) WF (f x (Γs z)) ifs (tt z x) bt (fun t => Γt t x))
    (he : ∀ (s : Shared) (H : Hp) (c : Addr) (cl : List (Str × Addr)) (fp : List Addr) (t : τ) (x : α), Ev (X.blk s H scope (compEnvC scope cl c X.env) fp) WF (Γt t x) elt (te t x) (fun y => .d true (encO (out y))) (fun y => Γe y x))
    (hi : ∀ r, Γs (s0 r) = wipeG (Γi r) (own.map (·.2))) (hts : ∀ j ∈ ts, j ∈ own.map (·.2)) (htl : ∀ t x, Γs (st t) = wipeG (Γt t x) (own.map (·.2))) (hel : ∀ z x, Γs (se z) = wipeG (Γe z x) (own.map (·.2)))
    (hun : ∀ s j, j ∈ own.map (·.2) → j < (Γs s).length → (Γs s)[j]? = some .un) (hs : ∀ x, foldedSetIterable iter X.env x = pure x := by intro _; rfl) :
    EvF X W Γ (.ListComp elt [⟨tg, iter, ifs, 0⟩] scope pos) (mi.bind fun r => (R.req (szB (items r))).bind fun _ => compR tt bt st te se out (items r) (s0 r)) (fun z => z.2.map encO) (fun z => Γs z.1) := by
  have hB : BlkOk X.N X.env.scope scope own := by rw [C.hN, C.hsc]; exact blkOk_by ok
  refine pe_imp (pe_lc (g := fun v σ H Q => ∃ G Γ x, Sta X.K G H σ Γ ∧ Dn X.K (rg G fr) H v (enc x) ∧ ∀ σ' : St, List.length σ' = List.length σ → (∀ j, j ∉ ts → σ'[j]? = σ[j]?) → Sta X.K G H σ' (f x Γ) → Q σ' H)
    (tt := fun σ H Q => ∃ z : S × α, rdT X WF (f z.2 (Γs z.1)) (tt z.1 z.2) bt (fun t => Γt t z.2) σ H Q) (te := fun σ H Q => ∃ z : τ × α, rdE X WF (Γt z.1 z.2) (te z.1 z.2) (fun y => .d true (encO (out y))) (fun y => Γe y z.2) σ H Q)
    C.calm (by rw [C.hN]; exact C.nd) hin hB (fun s H c cl fp => hg s H c cl fp) (fun s H c cl fp => ?_) (fun s H c cl fp => ?_) hs) fun σ H Q h => comp_rd hi hts htl hel hun h
  · exact ⟨fun pins s' σ H' Q I ⟨z, q⟩ => (ht s H c cl fp z.1 z.2).run pins s' σ H' Q I q⟩
  · exact ⟨fun pins s' σ H' Q I ⟨z, q⟩ => (he s H c cl fp z.1 z.2).run pins s' σ H' Q I q⟩
end
end PD


set_option Elab.async false
set_option linter.all false
set_option maxRecDepth 100000
set_option maxHeartbeats 4000000
set_option autoImplicit false
namespace PD
open PySem L2
def mkS (io : Bool) (c : Cl) : Sl := if io then .io c else .own c
theorem Sta.chg {K : PySem.W.Frag} {G : Gh} {H : Hp} {σ : St} {Γ : List Sl} {ds : List PyData} (s : Sta K G H σ Γ) (i : Nat) (io : Bool) (hi : Γ[i]? = some (mkS io (.lst ds))) :
    ∃ p vs, σ[i]? = some (some (.ref p)) ∧ H p = some (.lst vs) ∧ DnA K (rg G true) H vs ds ∧
      ∀ vs' ds', DnA K (rg G true) H vs' ds' → Sta K G (upd H p (.lst vs')) σ (Γ.set i (mkS io (.lst ds'))) ∧ Ext G H G (upd H p (.lst vs')) := by
  cases io with
  | true => exact s.changeIo i hi
  | false => exact s.change i hi
def ltS {α : Type} (xs : List α) : Bool := decide (xs.length < sizeLine)
section
variable {X : Cx} {W : WX} {sc : Scope} {N : List Str} {Γ : List Sl} {o e e2 : Expr} {es : List Expr} {apos cpos pos : Pos} {α β γ : Type} {ma : R α} {as : α → List AV} {Γ1 : α → List Sl} {Γk : γ → List Sl}
theorem Pst.req {G : Gh} {H : Hp} {σ : St} {τ : Type} {c : Bool} {m : R τ} {P : τ → Gh → Hp → Prop} (h : Pst X W G H σ ((R.req c).bind fun _ => m) P) : c = true ∧ Pst X W G H σ m P := by
  cases c with
  | false => exact h.elim
  | true => exact ⟨rfl, h⟩
/-- a method of the list in slot i -/
theorem ev_lm {name : Str} {id : String} {r : V → List V → Hp → VK → Prop} {k : α → R γ} {av : γ → AV} {ds0 : List PyData} (slot : Slot "list" name id) (hty : typeOf (.builtin id) = pure (.type "method_descriptor")) (hm : MtR X id r) (i : Nat) (io : Bool) (ho : EvP X W Γ o (.s i)) (h0 : Γ[i]? = some (mkS io (.lst ds0)))
    (ha : EvA X W Γ (e :: es) ma as Γ1) (hk : ∀ a G H σ p ws Q, Sta X.K G H σ (Γ1 a) → σ[i]? = some (some (.ref p)) → AVs X.K G H σ ws (as a) → Pst X W G H σ (k a) (fun z G' H' => ∀ w, Sta X.K G' H' σ (Γk z) → AVok X.K G' H' σ w (av z) → Q w H') → r (.ref p) ws H Q)
    (hbase : attributeBase o name X.env (eval o X.env) = eval o X.env := by rfl)
    (hfew : ((backTo cpos (starEach (e :: es) X.env)).all (fun x => !x.1) && (backToKw cpos (keywordEach [] X.env)).all (fun x => x.1.isSome) && decide ((e :: es).length + ([] : List Keyword).length + (if ([] : List Keyword).isEmpty then 0 else 1) < 30)) = true := by rfl)
    (hline : (apos.endLine == cpos.line) = true := by rfl) (hs : starEach (e :: es) X.env = (false, eval e X.env) :: starEach es X.env := by rfl) (hplain : (backTo cpos (starEach es X.env)).any (·.1) = false := by rfl) :
    Ev X W Γ (.Call (.Attribute o name apos) (e :: es) [] cpos) (ma.bind k) av Γk := by
  refine pe_imp (pe_bm PySem.F.plainAttrs_list slot hty hm ho ha hbase hfew hline hs hplain) fun σ H Q ⟨G, S, p⟩ => ⟨G, S, fun G1 H1 e1 x S1 hx => ?_⟩
  obtain ⟨q, vs, g1, g2, g3, _⟩ := S1.chg i io h0
  have hx : σ[i]? = some (some x) := hx
  rw [g1] at hx
  cases hx
  refine ⟨.inl ⟨rfl, vs, SqL.of g2⟩, G1, S1, (Pst.bind (Pst.ext p e1)).imp fun a G2 H2 e2 p2 ws S2 hw => hk a G2 H2 σ q ws Q S2 g1 hw p2⟩
theorem ev_lm0 {name : Str} {id : String} {r : V → List V → Hp → VK → Prop} {k : R γ} {av : γ → AV} {ds0 : List PyData} (slot : Slot "list" name id) (hty : typeOf (.builtin id) = pure (.type "method_descriptor")) (hm : MtR X id r) (i : Nat) (io : Bool) (ho : EvP X W Γ o (.s i)) (h0 : Γ[i]? = some (mkS io (.lst ds0)))
    (hk : ∀ G H σ p Q, Sta X.K G H σ Γ → σ[i]? = some (some (.ref p)) → Pst X W G H σ k (fun z G' H' => ∀ w, Sta X.K G' H' σ (Γk z) → AVok X.K G' H' σ w (av z) → Q w H') → r (.ref p) [] H Q)
    (hbase : attributeBase o name X.env (eval o X.env) = eval o X.env := by rfl) (hline : (apos.endLine == cpos.line) = true := by rfl) :
    Ev X W Γ (.Call (.Attribute o name apos) [] [] cpos) k av Γk := by
  refine pe_imp (pe_bm0 PySem.F.plainAttrs_list slot hty hm ho hbase hline) fun σ H Q ⟨G, S, p⟩ => ⟨G, S, fun G1 H1 e1 x S1 hx => ?_⟩
  obtain ⟨q, vs, g1, g2, g3, _⟩ := S1.chg i io h0
  have hx : σ[i]? = some (some x) := hx
  rw [g1] at hx
  cases hx
  exact ⟨.inl ⟨rfl, vs, SqL.of g2⟩, hk G1 H1 σ q Q S1 g1 (Pst.ext p e1)⟩
/-- xs.append(e) -/
theorem ev_append {enc : β → PyData} {xs : α → List β} {y : α → β} {ds0 : List PyData} (i : Nat) (io : Bool) (ho : EvP X W Γ o (.s i)) (h0 : Γ[i]? = some (mkS io (.lst ds0))) (ha : Ev X W Γ e ma (fun r => .d true (enc (y r))) Γ1)
    (hi : ∀ r, (Γ1 r)[i]? = some (mkS io (.lst ((xs r).map enc)))) (kk : α → γ) (h2 : ∀ r, Γk (kk r) = (Γ1 r).set i (mkS io (.lst ((xs r ++ [y r]).map enc))) := by intros; rfl)
    (hbase : attributeBase o "append" X.env (eval o X.env) = eval o X.env := by rfl) (hs : starEach [e] X.env = [(false, eval e X.env)] := by rfl) (hline : (apos.endLine == cpos.line) = true := by rfl) :
    Ev X W Γ (.Call (.Attribute o "append" apos) [e] [] cpos) (ma.bind fun r => (R.req (ltS (xs r))).bind fun _ => .val (kk r)) (fun _ => .d true .none) Γk := by
  have hA : EvA X W Γ [e] ma (fun r => [.d true (enc (y r))]) Γ1 := by
    have := eva_cons (X := X) (W := W) (Γ := Γ) (γ := α) (as := fun r => [AV.d true (enc (y r))]) (Γk := Γ1) (fun x _ => x) ha (fun _ => eva_nil) (fun _ _ => rfl) (fun _ _ => rfl) (by rw [hs]; rfl)
    rw [show (ma.bind fun x => (R.val ()).bind fun _ => R.val x) = ma from R.bind_val ma] at this
    exact this
  refine ev_lm PySem.F.slot_list_append PySem.F.type_list_append mt_append i io ho h0 hA (fun a G H σ p ws Q S hv hw k => ?_) hbase (by rw [hs]; rfl) hline (by rw [hs]; rfl) rfl
  obtain ⟨v, rfl, hv'⟩ := avs_one hw
  obtain ⟨q, vs, g1, g2, g3, g4⟩ := S.chg i io (hi a)
  rw [hv] at g1
  cases g1
  obtain ⟨c, k⟩ := Pst.req k
  have hl : vs.length = (xs a).length := by rw [g3.length, List.length_map]
  obtain ⟨S2, e2⟩ := g4 (vs ++ [v]) ((xs a ++ [y a]).map enc) (by rw [List.map_append]; exact g3.append (.cons hv' .nil))
  exact ⟨p, vs, v, rfl, rfl, g2, by rw [hl]; exact of_decide_eq_true c, k _ _ e2 _ (by rw [h2]; exact S2) .non⟩
/-- xs.insert(n, e) -/
def insI (xs : List β) (n : Int) (y : β) : List β := xs.take n.toNat ++ [y] ++ xs.drop n.toNat
def cIns (xs : List β) (n : Int) : Bool := decide (xs.length < sizeLine) && decide (0 ≤ n ∧ n < 2 ^ 63)
theorem ev_insert {enc : β → PyData} {f1 : Bool} {xs : α → List β} {n : α → Int} {y : α → β} {ds0 : List PyData} (i : Nat) (io : Bool) (ho : EvP X W Γ o (.s i)) (h0 : Γ[i]? = some (mkS io (.lst ds0))) (ha : EvA X W Γ [e, e2] ma (fun r => [.d f1 (.int (n r)), .d true (enc (y r))]) Γ1)
    (hi : ∀ r, (Γ1 r)[i]? = some (mkS io (.lst ((xs r).map enc)))) (kk : α → γ) (h2 : ∀ r, Γk (kk r) = (Γ1 r).set i (mkS io (.lst ((insI (xs r) (n r) (y r)).map enc))) := by intros; rfl)
    (hbase : attributeBase o "insert" X.env (eval o X.env) = eval o X.env := by rfl) (hs : starEach [e, e2] X.env = [(false, eval e X.env), (false, eval e2 X.env)] := by rfl) (hs2 : starEach [e2] X.env = [(false, eval e2 X.env)] := by rfl) (hline : (apos.endLine == cpos.line) = true := by rfl) :
    Ev X W Γ (.Call (.Attribute o "insert" apos) [e, e2] [] cpos) (ma.bind fun r => (R.req (cIns (xs r) (n r))).bind fun _ => .val (kk r)) (fun _ => .d true .none) Γk := by
  refine ev_lm PySem.F.slot_list_insert PySem.F.type_list_insert mt_insert i io ho h0 ha (fun a G H σ p ws Q S hv hw k => ?_) hbase (by rw [hs]; rfl) hline (by rw [hs, hs2]) (by rw [hs2]; rfl)
  obtain ⟨v, u, rfl, q1, q2⟩ := avs_two hw
  obtain ⟨q, vs, g1, g2, g3, g4⟩ := S.chg i io (hi a)
  rw [hv] at g1
  cases g1
  obtain ⟨c, k⟩ := Pst.req k
  have hl : vs.length = (xs a).length := by rw [g3.length, List.length_map]
  unfold cIns at c
  rw [Bool.and_eq_true] at c
  have c1 : (xs a).length < sizeLine := of_decide_eq_true c.1
  have c2 : 0 ≤ n a ∧ n a < 2 ^ 63 := of_decide_eq_true c.2
  obtain ⟨S2, e2⟩ := g4 (vs.take (n a).toNat ++ [u] ++ vs.drop (n a).toNat) ((insI (xs a) (n a) (y a)).map enc) (by
    unfold insI
    rw [List.map_append, List.map_append, List.map_take, List.map_drop]
    exact ((g3.take _).append (.cons q2 .nil)).append (g3.drop _))
  exact ⟨p, vs, n a, u, rfl, by rw [dn_int q1], g2, by rw [hl]; exact c1, c2.1, c2.2, k _ _ e2 _ (by rw [h2]; exact S2) .non⟩
/-- xs.pop() -/
theorem ev_pop {enc : β → PyData} {xs : List β} (i : Nat) (io : Bool) (ho : EvP X W Γ o (.s i)) (h0 : Γ[i]? = some (mkS io (.lst (xs.map enc)))) (hbase : attributeBase o "pop" X.env (eval o X.env) = eval o X.env := by rfl) (hline : (apos.endLine == cpos.line) = true := by rfl) :
    Ev X W Γ (.Call (.Attribute o "pop" apos) [] [] cpos) (R.ofO xs.getLast?) (fun y => .d true (enc y)) (fun _ => Γ.set i (mkS io (.lst (xs.dropLast.map enc)))) := by
  refine ev_lm0 PySem.F.slot_list_pop PySem.F.type_list_pop mt_pop i io ho h0 (fun G H σ p Q S hv k => ?_) hbase hline
  obtain ⟨q, vs, g1, g2, g3, g4⟩ := S.chg i io h0
  rw [hv] at g1
  cases g1
  have hl : vs.length = xs.length := by rw [g3.length, List.length_map]
  cases hx : xs.getLast? with
  | none => rw [hx] at k; exact k.elim
  | some y =>
    rw [hx] at k
    rw [List.getLast?_eq_getElem?] at hx
    obtain ⟨v, q1, q2⟩ := g3.get' (i := xs.length - 1) (d := enc y) (by rw [List.getElem?_map, hx]; rfl)
    have hd : ∀ {us : List V} {ds : List PyData}, DnA X.K (rg G true) H us ds → DnA X.K (rg G true) H us.dropLast ds.dropLast := fun {us ds} h => by
      rw [List.dropLast_eq_take, List.dropLast_eq_take, h.length]
      exact h.take _
    obtain ⟨S2, e2⟩ := g4 vs.dropLast (xs.dropLast.map enc) (by
      have := hd g3
      rw [← List.map_dropLast] at this
      exact this)
    exact ⟨p, vs, v, rfl, rfl, g2, by rw [hl]; exact q1, k _ _ e2 _ S2 (q2.mono (fun _ _ h => h) e2.t)⟩
/-- xs[k] = e -/
theorem ex_item (C : Cf X W sc N) {ω φ ε : Type} {view : ω → Fl φ ε} {Γf : φ → List Sl} {Xf : ε → Xo} {rest : List Stmt} {enc : β → PyData} {f1 : Bool} {xs : α → List β} {y : α → β} {n : α → Int} {tpos : Pos} {kr : α → Nat → R ω} (i : Nat) (io : Bool) (ha : Ev X W Γ e ma (fun r => .d true (enc (y r))) Γ1)
    (ho : ∀ r, EvP X W (Γ1 r) o (.s i)) (hix : ∀ r, EvP X W (Γ1 r) e2 (.d f1 (.int (n r)))) (hi : ∀ r, (Γ1 r)[i]? = some (mkS io (.lst ((xs r).map enc)))) (hr : ∀ r j, Ex X W ((Γ1 r).set i (mkS io (.lst (((xs r).set j (y r)).map enc)))) rest (kr r j) view Γf Xf)
    (has : ∀ v, assign (.Subscript o e2 tpos) X.env v = (do
      let ov ← holding [v] (eval o X.env)
      let iv ← holding [v, ov] (eval e2 X.env)
      standAt tpos
      holding [v, ov, iv] (setItem ov iv v)
      release [v, ov, iv] []) := by intro _; rfl)
    (hs : swapsWithSole [.Subscript o e2 tpos] e pos.line X.env = pure false := by rfl) (hw : swappedStores [.Subscript o e2 tpos] e X.env = pure none := by rfl) (h1 : (assignEach [.Subscript o e2 tpos] X.env).map (·.2) = [assign (.Subscript o e2 tpos) X.env] := by rfl) :
    Ex X W Γ (.Assign [.Subscript o e2 tpos] e pos :: rest) (ma.bind fun r => (R.ofO (ixN (xs r).length (n r))).bind fun j => kr r j) view Γf Xf := by
  refine pss_imp (pss_cons (ps_asg ha (pg_sub (pe_any ho) (pe_any hix) set_list has) hs hw h1) (pss_any fun z : α × Nat => hr z.1 z.2)) fun D σ H ⟨G, S, p⟩ => ⟨G, S, (PstS.bind p).imp fun r G1 H1 e1 p1 v S1 av => ?_⟩
  refine ⟨r, G1, S1, fun G2 H2 e2' ov S2 hov => ⟨r, G2, S2, fun G3 H3 e3 iv S3 hiv => ?_⟩⟩
  obtain ⟨q, vs, g1, g2, g3, g4⟩ := S3.chg i io (hi r)
  have hov : σ[i]? = some (some ov) := hov
  rw [g1] at hov
  cases hov
  have hl : vs.length = (xs r).length := by rw [g3.length, List.length_map]
  cases hx : ixN (xs r).length (n r) with
  | none => rw [hx] at p1; exact (p1 σ).elim
  | some j =>
    rw [hx] at p1
    obtain ⟨S4, e4⟩ := g4 (vs.set j v) (((xs r).set j (y r)).map enc) (by
      rw [List.map_set]
      exact g3.set (e3.dn (e2'.dn av)) j)
    exact ⟨q, vs, n r, j, rfl, dn_int hiv, g2, by rw [hl]; exact hx, (r, j), G3, S4, PstS.ext p1 ((e2'.tr e3).tr e4)⟩
/-- sorted(xs) of ints -/
def sortI (ns : List Int) : List Int := ns.mergeSort (fun a b => decide (a ≤ b))
theorem sortI_perm (ns : List Int) : (sortI ns).Perm ns := List.mergeSort_perm ..
theorem sortI_le (ns : List Int) : (sortI ns).Pairwise (· ≤ ·) := by
  have := List.pairwise_mergeSort (le := fun a b : Int => decide (a ≤ b)) (fun a b c h1 h2 => by simp at *; omega) (fun a b => by simp; omega) ns
  exact this.imp fun h => by simpa using h
theorem sortI_unique {ns ms : List Int} (hp : ms.Perm ns) (hs : ms.Pairwise (· ≤ ·)) : ms = sortI ns := PySem.W.ksm_same (hp.trans (sortI_perm ns).symm) hs (sortI_le ns)
theorem evf_sorted (C : Cf X W sc N) {fr : Bool} {ns : α → List Int} {p : Pos} (hm : X.mg "sorted" = none) (hg : glB sc "sorted" = true) (ha : Ev X W Γ e ma (fun a => .d fr (.list ((ns a).map PyData.int))) Γ1) (he : starEach [e] X.env = (false, eval e X.env) :: starEach [] X.env := by rfl) :
    EvF X W Γ (.Call (.Name "sorted" p) [e] [] pos) ma (fun a => (sortI (ns a)).map PyData.int) Γ1 := by
  refine pe_imp (pe_callB cr_sortedI (C.gl hg) hm PyProof.Rows.boot_sorted (pa_cons ha pa_nil he) (by decide +kernel) (by decide +kernel) he rfl) fun σ H Q ⟨G, S, p⟩ => ⟨G, S, p.imp fun a G1 H1 e1 k v S1 h1 => ?_⟩
  obtain ⟨q, xs, rfl, g1, g2⟩ := dn_list h1
  have e := dna_ints g2
  subst e
  refine ⟨q, ns a, rfl, (g1.mono (S1.w.rgl fr)).sq, fun ns' l hp hs hl => ?_⟩
  rw [sortI_unique hp hs]
  exact k l _ S1 hl (ints_dna _)
end
end PD


set_option Elab.async false
set_option linter.all false
set_option maxRecDepth 100000
set_option maxHeartbeats 4000000
set_option autoImplicit false
/-! ## enumerate over a tuple -/
namespace PD
open PySem L2
open Sem (wp)
theorem enumT_new {v : Value} {ob : Obj} {Z : Heap → Prop} (B : Begins v ob Z) :
    Meets (Builtin.«enumerate.__new__» ⟨[.type "enumerate", v], []⟩) (fun _ R s => Z s.heap ∧ R (.ok (.ret (.ref (s.heap.push ob).objs.size)))
      { s with heap := (s.heap.push ob).push { cls := .type "enumerate", data := .fields #[.none, .bool false, .ref s.heap.objs.size, rawInt 0, .none, .none] } }) :=
  .of_wp fun prog w A R s h => by
    obtain ⟨hp, g, d, tk, os⟩ := s
    obtain ⟨z1, z2⟩ := h
    have z3 := sub_enumerate
    have z4 : ∀ {A' : Around} {E : Value → Shared → Prop} {Q : Value → Shared → Prop}, Q (.ref hp.objs.size) ⟨hp.push ob, g, d, tk, os⟩ → wpAny (model prog w) A' (pyIter v) Q E ⟨hp, g, d, tk, os⟩ :=
      fun q => B.iter prog w _ _ ⟨hp, g, d, tk, os⟩ _ z1 q
    wp_walk using z4
    refine wpAny_stack_any fun z5 => wpAny_pure ?_
    split
    · rename_i y _ _ _ _ _
      cases (y == Value.type "enumerate") <;> (wp_walk using z4) <;> exact ⟨_, rfl, z2⟩
    · wp_walk using z4
      exact ⟨_, rfl, z2⟩
theorem enumT_call {prog : Program} {w : World} {A : Around} {E : Value → Shared → Prop} {s : Shared} {v : Value} {ob : Obj} {Z : Heap → Prop} {Q : Value → Shared → Prop} (B : Begins v ob Z) (h1 : Z s.heap)
    (h : ∀ h', IsEnum h' (s.heap.objs.size + 1) s.heap.objs.size 0 .none → h'.get? s.heap.objs.size = some ob → h'.objs.size = s.heap.objs.size + 2 →
      (∀ b o, s.heap.get? b = some o → h'.get? b = some o) → Q (.ref (s.heap.objs.size + 1)) { s with heap := h' }) :
    wpAny (model prog w) A (call (.type "enumerate") [v]) Q E s := by
  refine callType_new F.called_enumerate (by decide) (F.typeCall_enumerate_1 _) (F.newCall_enumerate_1 _) (fun z => F.args_object_init_2 z _) F.entry_enumerate_new (enumT_new B) ⟨h1, ?_⟩
  have hz : (s.heap.push ob).objs.size = s.heap.objs.size + 1 := Heap.size_push ..
  show _ ∧ _
  rw [hz]
  have he : IsEnum ((s.heap.push ob).push { cls := .type "enumerate", data := .fields #[.none, .bool false, .ref s.heap.objs.size, rawInt 0, .none, .none] }) (s.heap.objs.size + 1) s.heap.objs.size 0 .none := by
    have q := Heap.get?_push_size (s.heap.push ob) (o := { cls := .type "enumerate", data := .fields #[.none, .bool false, .ref s.heap.objs.size, rawInt 0, .none, .none] }) rfl
    rw [hz] at q
    exact q
  exact ⟨⟨_, he, rfl⟩, h _ he (Heap.get?_push_of_some _ (Heap.get?_push_size _ B.free)) (by rw [Heap.size_push, hz]) fun b o x => Heap.get?_push_of_some _ (Heap.get?_push_of_some _ x)⟩
/-- the tuple at a, each item in a new pair -/
def IteT (K : PySem.W.Frag) (a : Addr) : It :=
  ⟨fun i H => ∃ (xs : List V) (x : V), SqT K H a xs ∧ xs[i]? = some x, fun i H v H' => ∃ T x, v = .ref T ∧ H T = none ∧ H' = upd H T (.tup [.int (i : Nat), x]) ∧ ∀ xs, SqT K H a xs → xs[i]? = some x, fun i H => ∃ xs : List V, SqT K H a xs ∧ xs.length ≤ i⟩
theorem turn_enumT {P : Program} {w : World} {K : PySem.W.Frag} {elts : List Expr} {kk : Nat} {tpos : Pos} (a e it : Addr) :
    Turn P w K (.Tuple elts kk tpos) (IteT K a) [e, it] e (fun i h => (∃ old, IsEnum h e it ((i : Nat) : Int) old) ∧ h.IsTupleIter it a i ∧ e ≠ it) where
  mem := by simp
  obj := fun i h st b hb => by
    obtain ⟨⟨old, he⟩, ⟨o, ho, hc, hd⟩, _⟩ := st
    rcases (show b = e ∨ b = it by simpa using hb) with z | z <;> rw [z]
    · exact ⟨_, he, fun v q => nomatch q⟩
    · exact ⟨o, ho, fun v q => by rw [hd] at q; cases q⟩
  keep := fun i h h' st k => ⟨⟨st.1.choose, k e (by simp) _ st.1.choose_spec⟩, st.2.1.at fun o q => k it (by simp) o q, st.2.2⟩
  item := by
    intro X hP hw hK hc i pins s σ H E I hf st hg
    subst hP hw hK
    obtain ⟨⟨old, he⟩, hit, hne⟩ := st
    obtain ⟨xs, x, hq, hx⟩ := hg
    obtain ⟨its, rv, pt, hz⟩ := I.tuple hq
    have pt : s.heap.IsTuple a its.toArray := pt
    obtain ⟨u, hu, ru⟩ := rv.get hx
    have hel : e < s.heap.objs.size := Heap.lt_size he
    have hil : it < s.heap.objs.size := hit.elim fun o q => Heap.lt_size q.1
    have ha1 : a ≠ it := by
      rintro rfl
      obtain ⟨o1, q1, q2, _⟩ := hit
      obtain ⟨o2, q3, q4, _⟩ := pt
      rw [q1] at q3; cases q3
      rw [q2] at q4; exact absurd (Value.type.inj q4) (by decide)
    have ha2 : e ∉ [it, a] := by
      intro z
      rcases (show e = it ∨ e = a by simpa using z) with z | z
      · exact hne z
      · obtain ⟨o2, q3, q4, _⟩ := pt
        rw [← z, he] at q3; cases q3
        exact absurd (Value.type.inj q4) (by decide)
    have D := Draws.tuple (prog := X.prog) (w := X.w) (A := X.A.in1) (I.ok.hd hc) it a ha1 its.toArray
    refine wpAny_pyNext_enum_itemD D he ⟨hit, pt⟩ (i := i) ?_ hne ha2 fun y h' tk hy ho hit' hT hsz hk => ?_
    · have := List.getElem?_eq_some_iff.mp hu
      simpa using this.1
    obtain rfl : y = u := by
      have : its[i]? = some y := by simpa using hy
      rw [hu] at this; cases this; rfl
    refine ⟨_, rfl, wpAny_letOwnedTupleGo_enum (s := { s with heap := h', toks := tk + 1 }) ho fun h'' he' sb => ?_⟩
    have hT2 : h''.get? s.heap.objs.size = some { cls := .type "tuple", data := .seq #[.int i tk, y] } := (sb.2 _ (Nat.ne_of_gt hel)).trans hT
    have new : ObjOk X.prog X.w (upd H s.heap.objs.size (.tup [.int (i : Nat), x])) h'' s.heap.objs.size (.tup [.int (i : Nat), x]) :=
      ⟨by show 2 ≤ sizeLine; decide, [.int i tk, y], .cons ⟨_, rfl⟩ (.cons ru .nil), ⟨_, hT2, rfl, _, rfl⟩⟩
    have I1 : Inv X pins σ (upd H s.heap.objs.size (.tup [.int (i : Nat), x])) { s with heap := h'', toks := tk + 1 } :=
      I.turnedNew (ch := [e, it]) (fun b ob hb q => (sb.2 b (fun z => hb (by simp [z]))).trans (hk b ob (fun z => hb (by simp [z])) (fun z => hb (by simp [z])) q)) hf (Nat.le_refl _) new
    refine ⟨.ref s.heap.objs.size, _, I1, rfl, ⟨_, x, rfl, I.hok.fresh (Nat.le_refl _), rfl, fun ys hy => by rw [I.tuple_inj hy hq]; exact hx⟩, ⟨⟨y, ?_⟩, hit'.1.at fun o q => (sb.2 it (Ne.symm hne)).trans q, hne⟩, fun b hb => ?_⟩
    · rw [show ((i + 1 : Nat) : Int) = (i : Int) + 1 by omega]
      exact he'
    · have hb' : b < s.heap.objs.size := by
        rcases (show b = e ∨ b = it by simpa using hb) with z | z <;> rw [z] <;> assumption
      rw [upd_ne (Nat.ne_of_lt hb')]
      exact (hf b hb).1
  done := by
    intro X hP hw hK hc i pins s σ H E I hf st hg
    subst hP hw hK
    obtain ⟨⟨old, he⟩, hit, hne⟩ := st
    obtain ⟨xs, hq, hx⟩ := hg
    obtain ⟨its, rv, pt, hz⟩ := I.tuple hq
    have pt : s.heap.IsTuple a its.toArray := pt
    obtain ⟨f0, f1, f2, f3, f4, f5⟩ := hf it (by simp)
    have hl := rv.length
    have hT : s.TypeIs (.ref e) "enumerate" := ⟨_, he, rfl⟩
    unfold pyNext
    refine wpAny_bind (wpAny_attempt (wpAny_callSpecial?_slot (name := Str.ofString "__next__") hT F.slot_enumerate_next (wpAny_call_entry F.slot_enumerate_next hT F.entry_enumerate_next ?_ (F.args_enumerate_next_1 _))))
    show wpAny _ _ (PySem.field (.ref e) 2 >>= _) _ _ _
    refine wpAny_bind (wpAny_field he rfl (x := .ref it) rfl ?_)
    refine wpAny_bind (wpAny_nextOf_tuple_end (I.ok.hd hc) hit pt (by simp; omega) fun h' x eb hx' => ?_)
    obtain ⟨o, ho, hcl⟩ := hx'
    refine wpAny_bind (wpAny_isInstance (T := "StopIteration") (b := true) ⟨o, ho, hcl⟩ isSubtype_stop ?_)
    exact wpAny_pure ⟨rfl, I.turned (t' := s.toks) (fun b o hb q => eb b o hb q) f0 f1 f3 f4 f5⟩
  self := fun A i s Q E st h => let ⟨⟨_, he⟩, _⟩ := st; wpAny_pyIter_enum he h
theorem pi_enumT {X : Cx} {e : Expr} {ta : TA} {p pos tpos : Pos} {elts : List Expr} {kk : Nat} (hg : Gl X "enumerate") (hm : X.mg "enumerate" = none) (ha : PA X [e] ta) (hs : starEach [e] X.env = [(false, eval e X.env)] := by rfl) :
    PI X (.Tuple elts kk tpos) (.Call (.Name "enumerate" p) [e] [] pos) (fun σ H R => ta σ H fun vs H1 => ∃ a xs, vs = [.ref a] ∧ SqT X.K H1 a xs ∧ R (IteT X.K a) H1) := by
  refine ⟨fun pins s σ H R I h => ?_⟩
  refine PyProof.Rows.Call_ (ld_blt I hg hm (show bootBuiltins "enumerate" = some (.type "enumerate") by kernel_rfl) (PyProof.Rows.callWith_type1 (thn (ha.run pos pins s σ H _ I h) fun us s1 ⟨vs, H1, I1, r1, q1⟩ => ?_) hs rfl))
  obtain ⟨a, xs, ex, hq, q⟩ := q1
  subst ex
  cases r1 with
  | cons r rr =>
    cases rr
    cases r
    obtain ⟨its, rv, pt, hz⟩ := I1.tuple hq
    refine enumT_call (begins_tuple a its.toArray) pt fun h' he hit hsz hk => wpAny_pyIter_enum he ?_
    have I2 : Inv X pins σ H1 { s1 with heap := h' } := I1.kept (t' := s1.toks) hk
    refine ⟨s1.heap.objs.size + 1, [s1.heap.objs.size + 1, s1.heap.objs.size], _, _, H1, rfl, I2, turn_enumT a (s1.heap.objs.size + 1) s1.heap.objs.size, ⟨⟨.none, he⟩, ⟨_, hit, rfl, rfl⟩, Nat.succ_ne_self _⟩, fun b hb => ?_, q⟩
    have hle : s1.heap.objs.size ≤ b := by
      rcases (show b = s1.heap.objs.size + 1 ∨ b = s1.heap.objs.size by simpa using hb) with z | z <;> rw [z]
      · exact Nat.le_add_right _ _
      · exact Nat.le_refl _
    exact I1.fpOk hle (I1.hok.fresh hle)
theorem itd_enumT {K : PySem.W.Frag} {G : Gh} {H : Hp} {a : Addr} {xs : List V} {ds : List PyData} {fr : Bool} (h : SqT K H a xs) (hd : DnA K (rg G fr) H xs ds) : ItD K G H (IteT K a) (enumD ds) fr := by
  have sq : ∀ G2 H2, Le G H G2 H2 → SqT K H2 a xs := fun G2 H2 e => e.t.seq h
  have hl := hd.length
  have hl2 : (enumD ds).length = xs.length := by unfold enumD; simp [hl]
  refine ⟨fun i G2 H2 hi e => ⟨xs, xs[i]'(by rw [hl2] at hi; exact hi), sq G2 H2 e, by simp⟩, fun i G2 H2 σ Γ v H3 hi e S y => ?_, fun G2 H2 e => ⟨xs, sq G2 H2 e, by rw [hl2]; exact Nat.le_refl _⟩⟩
  obtain ⟨T, x, rfl, hT, rfl, hy⟩ := y
  obtain ⟨d, h1, h2⟩ := (e.dna hd).get (hy xs (sq G2 _ e))
  obtain ⟨G3, e3, S3, h3⟩ := sta_pair S hT (.int (i : Nat)) h2
  refine ⟨G3, _, ?_, e3, S3, h3⟩
  unfold enumD
  rw [List.getElem?_mapIdx, h1]
  rfl
section
variable {X : Cx} {W : WX} {sc : Scope} {N : List Str} {Γ : List Sl} {e e2 : Expr} {pos p : Pos} {α : Type} {ma : R α} {Γ1 : α → List Sl}
theorem evi_enumT (C : Cf X W sc N) {elts : List Expr} {kk : Nat} {tpos : Pos} {fr : Bool} {ds : α → List PyData} (hm : X.mg "enumerate" = none) (hg : glB sc "enumerate" = true) (ha : Ev X W Γ e ma (fun r => .d fr (.tuple (ds r))) Γ1) (hst : starEach [e] X.env = [(false, eval e X.env)] := by rfl) :
    EvI X W Γ (.Tuple elts kk tpos) (.Call (.Name "enumerate" p) [e] [] pos) ma (fun r => enumD (ds r)) fr Γ1 :=
  pi_imp (pi_enumT (C.gl hg) hm (pa_cons ha pa_nil (by rw [hst]; rfl)) hst) fun σ H Q ⟨G, S, p⟩ => ⟨G, S, p.imp fun r G1 H1 e1 k v S1 h => by
    obtain ⟨q, xs, rfl, g1, g2⟩ := dn_tuple h
    exact ⟨q, xs, rfl, g1, k _ S1 (itd_enumT g1 g2)⟩⟩
end
end PD


set_option Elab.async false
set_option linter.all false
set_option maxRecDepth 100000
set_option maxHeartbeats 4000000
set_option autoImplicit false
/-! ## set(list of ints), sorted(set(..)), len(set(..)) -/
namespace PD
open PySem PySem.Spec PyProof.Rows L2
abbrev sO (w : World) : Obj := { cls := .type "set", dict := none, data := .set #[] 0 (.fresh 0 0 (!w.params.followText "set-order")) }
section
variable {P : Program} {w : World} {A : Around} {E : Value → Shared → Prop} {s : Shared}
theorem set_of_list {l : Addr} {items : Array Value} (ns : List Int) {Q : Value → Shared → Prop} (hh : A.handled = none) (hl : s.heap.IsList l items) (hit : IntsAre items.toList ns) (hb : ns.length + 1 < scanBound)
    (h : ∀ (h' : Heap) (tk c : Nat), SetR w h' s.heap.objs.size (fun j => decide (j ∈ ns)) c → c ≤ ns.length → (∀ b o, s.heap.get? b = some o → h'.get? b = some o) → Q (.ref s.heap.objs.size) { s with heap := h', toks := tk }) :
    wpAny (model P w) A (call (.type "set") [.ref l]) Q E s := by
  have z0 : items.size = ns.length := by rw [← Array.length_toList]; exact IntsAre.length hit
  obtain ⟨c, tl, z1⟩ := F.called_set.mro
  have z2 := F.called_set.made
  have z3 := F.called_set.sub
  refine wpAny_call (codeAny_of_tree ?_)
  show wpAny _ _ (callAny (.type "set") _) _ _ _
  refine wpAny_pure ⟨Code.quiet_builtin _ (by decide +kernel), codeAny_builtin F.entry_type_call ?_⟩
  rw [Around.under_plain (weight_type_call_type "set" [.ref l] []) rfl]
  have z4 := F.called_set.notType
  have z5 := F.called_set.canCreate
  have z6 := F.typeCall_set_1 (.ref l)
  repeat (any_goals (first | assumption | wp_step))
  refine codeAny_mono (code_set_led1 (.ref l) (E := E) (Q₁ := fun ob s1 => ob = .ref s.heap.objs.size ∧ s1 = { s with heap := s.heap.push (sO w) }) ⟨rfl, rfl⟩) fun r s1 hr => ?_
  cases r with
  | error e => exact hr
  | ok fl =>
    cases fl with
    | ret ob =>
      obtain ⟨rfl, rfl⟩ := hr
      have hS : (s.heap.push (sO w)).get? s.heap.objs.size = some (sO w) := Heap.get?_push_size _ rfl
      have hT : Shared.TypeIs { s with heap := s.heap.push (sO w) } (.ref s.heap.objs.size) "set" := ⟨_, hS, rfl⟩
      have z7 := F.called_set.init.lookup
      have z8 := F.called_set.init.bind (.ref s.heap.objs.size)
      repeat (any_goals (first | assumption | wp_step))
      refine codeAny_mono (codeAny_call_builtin (R := wants (fun r s2 => r = .none ∧ ∃ h' tk c, s2 = { s with heap := h', toks := tk } ∧ SetR w h' s.heap.objs.size (fun j => decide (j ∈ ns)) c ∧ c ≤ ns.length ∧ (∀ b o, s.heap.get? b = some o → h'.get? b = some o)) E)
        F.called_set.init.plain F.entry_set_init (check_set_init_1 hT ?_)) fun r2 s2 hr2 => ?_
      · obtain ⟨⟨ocls, odict, odata, oslots⟩, hol, hcl, nl, hdl⟩ := hl
        simp only at hcl hdl
        subst hcl
        subst hdl
        have ho1 : (s.heap.push (sO w)).get? l = some { cls := .type "list", dict := odict, data := .seq items nl, slots := oslots } := Heap.get?_push_of_some _ hol
        have y1 := F.sub_list_set
        have y2 := F.sub_list_frozenset
        have y3 : (Value.type "list" == Value.type "dict") = false := by decide
        have hl1 : (s.heap.push (sO w)).IsList l items := ⟨_, ho1, rfl, nl, rfl⟩
        unfold Builtin.«set.__init__» noKeywords Builtin.Frozenset.updateFrom
        generalize hPI : pyIter = PI
        wp_walk
        subst hPI
        refine wpAny_pyIter_list hl1 (wpAny_bind (wpAny_runValue ?_))
        have hlS : l < s.heap.objs.size := Heap.lt_size hol
        have y4 : A.in1.in1.in1.handled = none := by simp [hh]
        have y5 : (s.heap.push (sO w)).objs.size = s.heap.objs.size + 1 := Heap.size_push ..
        have y6 : l ≠ (s.heap.push (sO w)).objs.size := by rw [y5]; exact Nat.ne_of_lt (Nat.lt_succ_of_lt hlS)
        have y7 : s.heap.objs.size ∉ [(s.heap.push (sO w)).objs.size, l] := by rw [y5]; simp; exact fun z => Nat.ne_of_lt hlS z.symm
        have hval : ∀ (i : Nat) (v : Value), items[i]? = some v → ∃ k t, ns[i]? = some k ∧ v = .int k t := fun i v hv => by
          have hi : i < ns.length := by rw [← z0]; exact (Array.getElem?_eq_some_iff.mp hv).1
          obtain ⟨t, e⟩ := IntsAre.int_at hit i v (by rw [Array.getElem?_toList]; exact hv)
          exact ⟨ns[i], t, List.getElem?_eq_getElem hi, by rw [e]; simp [hi]⟩
        refine set_update_ints ((Walks.list y4 _ l y6 items).toS) s.heap.objs.size y7 ns z0 hb hval (items.size - 0) 0 _ (by omega) (Nat.zero_le _) ⟨⟨_, Heap.get?_push_size _ rfl, rfl, rfl⟩, hl1.push _⟩
          ⟨0, Nat.le_refl 0, setR_new_at (Heap.get?_push_of_some _ hS)⟩ ?_
        intro s' c' hm hc' hS'
        obtain ⟨h', g2, d', tk', os'⟩ := s'
        have eg : g2 = s.gens := hm.gens
        have ed : d' = s.drawn := hm.drawn
        have eo : os' = s.os := hm.os
        subst eg ed eo
        show wpAny _ _ _ _ _ _
        refine wpAny_pure ?_
        show wpAny _ _ (ret Value.none) _ _ _
        rw [z0] at hc'
        refine wpAny_pure ⟨rfl, h', tk', c', rfl, hS', hc', fun b o e => ?_⟩
        have hb0 : b < s.heap.objs.size := Heap.lt_size e
        exact hm.heap b o (by rw [y5]; simp; exact ⟨Nat.ne_of_lt hb0, Nat.ne_of_lt (Nat.lt_succ_of_lt hb0)⟩) (Heap.get?_push_of_some _ (Heap.get?_push_of_some _ e))
      · cases r2 with
        | error e => exact hr2
        | ok f2 =>
          cases f2 with
          | ret r =>
            obtain ⟨rfl, h', tk, c', rfl, q1, q2, q3⟩ := hr2
            repeat (any_goals (first | assumption | wp_step))
            exact h _ _ _ q1 q2 q3
          | _ => exact hr2.elim
    | _ => exact hr.elim
end
end PD


set_option Elab.async false
set_option linter.all false
set_option maxRecDepth 100000
set_option maxHeartbeats 4000000
set_option autoImplicit false
namespace PD
open PySem PySem.Spec PyProof.Rows L2
/-! the members once, rising -/
def insS (k : Int) : List Int → List Int
  | [] => [k]
  | x :: xs => if k < x then k :: x :: xs else if k = x then x :: xs else x :: insS k xs
def setI : List Int → List Int
  | [] => []
  | n :: ns => insS n (setI ns)
theorem insS_mem {k j : Int} : ∀ {xs : List Int}, j ∈ insS k xs ↔ j = k ∨ j ∈ xs
  | [] => by simp [insS]
  | x :: xs => by
    unfold insS
    split
    · simp
    · split
      · next h => subst h; simp
      · simp only [List.mem_cons, insS_mem (xs := xs)]
        constructor
        · rintro (h | h | h) <;> simp [h]
        · rintro (h | h | h) <;> simp [h]
theorem insS_rise {k : Int} : ∀ {xs : List Int}, xs.Pairwise (· < ·) → (insS k xs).Pairwise (· < ·)
  | [], _ => by simp [insS]
  | x :: xs, h => by
    have h' := List.pairwise_cons.mp h
    unfold insS
    split
    · next hk =>
      refine List.pairwise_cons.mpr ⟨fun y hy => ?_, h⟩
      rcases List.mem_cons.mp hy with z | z
      · omega
      · have := h'.1 y z
        omega
    · split
      · exact h
      · next h1 h2 =>
        refine List.pairwise_cons.mpr ⟨fun y hy => ?_, insS_rise h'.2⟩
        rcases insS_mem.mp hy with z | z
        · omega
        · exact h'.1 y z
theorem setI_mem {k : Int} : ∀ {ns : List Int}, k ∈ setI ns ↔ k ∈ ns
  | [] => by simp [setI]
  | n :: ns => by simp [setI, insS_mem, setI_mem (ns := ns)]
theorem setI_rise : ∀ (ns : List Int), (setI ns).Pairwise (· < ·)
  | [] => .nil
  | n :: ns => insS_rise (setI_rise ns)
theorem rise_ext : ∀ {xs ys : List Int}, xs.Pairwise (· < ·) → ys.Pairwise (· < ·) → (∀ k, k ∈ xs ↔ k ∈ ys) → xs = ys
  | [], [], _, _, _ => rfl
  | [], y :: ys, _, _, h => absurd ((h y).2 (by simp)) (by simp)
  | x :: xs, [], _, _, h => absurd ((h x).1 (by simp)) (by simp)
  | x :: xs, y :: ys, hx, hy, h => by
    have hx' := List.pairwise_cons.mp hx
    have hy' := List.pairwise_cons.mp hy
    have e : x = y := by
      rcases List.mem_cons.mp ((h x).1 (by simp)) with z | z
      · exact z
      · rcases List.mem_cons.mp ((h y).2 (by simp)) with z' | z'
        · exact z'.symm
        · have a := hx'.1 y z'
          have b := hy'.1 x z
          omega
    subst e
    rw [rise_ext hx'.2 hy'.2 fun k => ?_]
    constructor
    · intro z
      rcases List.mem_cons.mp ((h k).1 (by simp [z])) with q | q
      · have := hx'.1 k z; omega
      · exact q
    · intro z
      rcases List.mem_cons.mp ((h k).2 (by simp [z])) with q | q
      · have := hy'.1 k z; omega
      · exact q
def lt64 (ns : List Int) : Bool := decide (ns.length < 64)
theorem pe_sset {X : Cx} {a : Expr} {ta : TE} {p p2 q pos : Pos} (hc : X.calm = true) (hg : Gl X "sorted") (hm : X.mg "sorted" = none) (hg2 : Gl X "set") (hm2 : X.mg "set" = none) (ha : PE X a ta)
    (na : starEach [a] X.env = (false, eval a X.env) :: starEach [] X.env := by rfl) : PE X (.Call (.Name "sorted" p) [.Call (.Name "set" p2) [a] [] q] [] pos)
      (fun σ H Q => ta σ H fun x H1 => ∃ (l : Addr) (ns : List Int), x = .ref l ∧ (SqL X.K H1 l (ns.map V.int) ∨ SqT X.K H1 l (ns.map V.int)) ∧ ns.length < 64 ∧ ∀ p, H1 p = none → Q (.ref p) (upd H1 p (.lst ((setI ns).map V.int)))) := by
  refine ⟨fun pins s σ H Q I h => ?_⟩
  refine Call_ (ld_blt I hg hm (show bootBuiltins "sorted" = some (.builtin "sorted") by decide +kernel) ?_)
  refine callWith_builtin1 (args_cons ?_ rfl) rfl rfl
  refine Call_ (ld_blt I hg2 hm2 boot_set ?_)
  refine callWith_type1 (args_cons (thn (ha.run pins s σ H _ I h) fun v s1 ⟨x, H1, I1, r1, q1⟩ => args_nil ?_) na) na rfl
  obtain ⟨l, ns, rfl, hq, h64, q1⟩ := q1
  cases r1
  have fin : ∀ (h' : Heap) (tk c : Nat), SetR X.w h' s1.heap.objs.size (fun j => decide (j ∈ ns)) c → c ≤ ns.length → (∀ b o, s1.heap.get? b = some o → h'.get? b = some o) →
      wpAny (model X.prog X.w) X.A (call (.builtin "sorted") [.ref s1.heap.objs.size]) (fun v s' => ∃ x H', Inv X pins σ H' s' ∧ RelV x v ∧ Q x H') X.xe { s1 with heap := h', toks := tk } := fun h' tk c R1 hc1 hk => by
    have I2 : Inv X pins σ H1 { s1 with heap := h', toks := tk } := I1.kept hk
    refine sorted_set (s := { s1 with heap := h', toks := tk }) R1 (I2.ok.hd hc) (by omega) fun s' p out c ms k g o hp hg hi hs hmm hl => ?_
    have e1 : ms = setI ns := rise_ext hs (setI_rise ns) fun z => by rw [hmm z, setI_mem]; simp
    subst e1
    have hlen : ((setI ns).map V.int).length ≤ sizeLine := by rw [List.length_map, hl, sizeLine_eq]; omega
    have hn : H1 p = none := I2.hok.fresh hp
    have J : Inv X pins σ (upd H1 p (.lst ((setI ns).map V.int))) { ({ s1 with heap := h', toks := tk } : Shared) with heap := s'.heap, gens := s'.gens, drawn := s'.drawn, toks := s'.toks } :=
      I2.call (ch := []) (Un.laid k hp hn) (I2.hok.laid k hp ⟨hlen, out.toList, c, vals_of_ints hi, hg⟩) (by rw [g]; exact I2.bare) (fun _ z => nomatch z)
    have e : s' = { ({ s1 with heap := h', toks := tk } : Shared) with heap := s'.heap, gens := s'.gens, drawn := s'.drawn, toks := s'.toks } := by
      cases s'
      cases o
      rfl
    rw [e]
    exact ⟨.ref p, _, J, rfl, q1 p hn⟩
  rcases hq with hq | hq
  · obtain ⟨its, r, pl, hz⟩ := I1.list hq
    exact set_of_list ns (I1.ok.hd hc) pl.isList (by simpa using intsAre_of r) (by unfold scanBound; omega) fun h' tk c a b d => args_nil (fin h' tk c a b d)
  · obtain ⟨its, r, pl, hz⟩ := I1.tuple hq
    exact call_set_tupI ns (I1.ok.hd hc) (show s1.heap.IsTuple l its.toArray from pl) (by simpa using intsAre_of r) (by unfold scanBound; omega) fun h' tk c a b d => args_nil (fin h' tk c a b d)
end PD


set_option Elab.async false
set_option linter.all false
set_option maxRecDepth 100000
set_option maxHeartbeats 4000000
set_option autoImplicit false
namespace PD
open PySem L2
/-! ## guards ahead -/
section
variable {X : Cx} {W : WX} {sc : Scope} {N : List Str} {Γ : List Sl} {β : Type} {o : Option β} {c : Bool}
theorem asΓ {ω φ ε : Type} {view : ω → Fl φ ε} {Γf : φ → List Sl} {Xf : ε → Xo} {ss : List Stmt} {m : R ω} (Γ : List Sl) (h : Ex X W Γ ss m view Γf Xf) : Ex X W Γ ss m view Γf Xf := h
theorem ev_pre {τ : Type} {e : Expr} {m : β → R τ} {av : τ → AV} {Γ' : τ → List Sl} (h : ∀ x, o = some x → Ev X W Γ e (m x) av Γ') : Ev X W Γ e ((R.ofO o).bind m) av Γ' := by
  cases o with
  | none => exact ⟨fun pins s σ H Q I ⟨G, S, p⟩ => p.elim⟩
  | some x => exact h x rfl
theorem evt_pre {τ : Type} {e : Expr} {m : β → R τ} {b : τ → Bool} {Γ' : τ → List Sl} (h : ∀ x, o = some x → EvT X W Γ e (m x) b Γ') : EvT X W Γ e ((R.ofO o).bind m) b Γ' := by
  cases o with
  | none => exact ⟨fun pins s σ H Q I ⟨G, S, p⟩ => p.elim⟩
  | some x => exact h x rfl
theorem evf_pre {τ : Type} {e : Expr} {m : β → R τ} {ds : τ → List PyData} {Γ' : τ → List Sl} (h : ∀ x, o = some x → EvF X W Γ e (m x) ds Γ') : EvF X W Γ e ((R.ofO o).bind m) ds Γ' := by
  cases o with
  | none => exact ⟨fun pins s σ H Q I ⟨G, S, p⟩ => p.elim⟩
  | some x => exact h x rfl
theorem eva_pre {τ : Type} {es : List Expr} {m : β → R τ} {as : τ → List AV} {Γ' : τ → List Sl} (h : ∀ x, o = some x → EvA X W Γ es (m x) as Γ') : EvA X W Γ es ((R.ofO o).bind m) as Γ' := by
  cases o with
  | none => exact ⟨fun q pins s σ H Q I ⟨G, S, p⟩ => p.elim⟩
  | some x => exact h x rfl
theorem evi_pre {τ : Type} {tg e : Expr} {m : β → R τ} {ds : τ → List PyData} {fr : Bool} {Γ' : τ → List Sl} (h : ∀ x, o = some x → EvI X W Γ tg e (m x) ds fr Γ') : EvI X W Γ tg e ((R.ofO o).bind m) ds fr Γ' := by
  cases o with
  | none => exact ⟨fun pins s σ H Q I ⟨G, S, p⟩ => p.elim⟩
  | some x => exact h x rfl
theorem evts_pre {τ : Type} {es : List Expr} {m : β → R τ} {b : τ → Bool} {Γ' : τ → List Sl} (h : ∀ x, o = some x → EvTs X W Γ es (m x) b Γ') : EvTs X W Γ es ((R.ofO o).bind m) b Γ' := by
  cases o with
  | none => exact ⟨fun pins s σ H Q I ⟨G, S, p⟩ => p.elim⟩
  | some x => exact h x rfl
theorem ex_pre {ω φ ε : Type} {view : ω → Fl φ ε} {Γf : φ → List Sl} {Xf : ε → Xo} {ss : List Stmt} {m : β → R ω} (h : ∀ x, o = some x → Ex X W Γ ss (m x) view Γf Xf) : Ex X W Γ ss ((R.ofO o).bind m) view Γf Xf := by
  cases o with
  | none => exact ⟨fun pins s σ H Q I ⟨G, S, p⟩ => (p σ).elim⟩
  | some x => exact h x rfl
theorem evt_req {τ : Type} {e : Expr} {m : R τ} {b : τ → Bool} {Γ' : τ → List Sl} (h : c = true → EvT X W Γ e m b Γ') : EvT X W Γ e ((R.req c).bind fun _ => m) b Γ' := by
  cases c with
  | false => exact ⟨fun pins s σ H Q I ⟨G, S, p⟩ => p.elim⟩
  | true => exact h rfl
theorem evf_req {τ : Type} {e : Expr} {m : R τ} {ds : τ → List PyData} {Γ' : τ → List Sl} (h : c = true → EvF X W Γ e m ds Γ') : EvF X W Γ e ((R.req c).bind fun _ => m) ds Γ' := by
  cases c with
  | false => exact ⟨fun pins s σ H Q I ⟨G, S, p⟩ => p.elim⟩
  | true => exact h rfl
theorem eva_req {τ : Type} {es : List Expr} {m : R τ} {as : τ → List AV} {Γ' : τ → List Sl} (h : c = true → EvA X W Γ es m as Γ') : EvA X W Γ es ((R.req c).bind fun _ => m) as Γ' := by
  cases c with
  | false => exact ⟨fun q pins s σ H Q I ⟨G, S, p⟩ => p.elim⟩
  | true => exact h rfl
theorem evi_req {τ : Type} {tg e : Expr} {m : R τ} {ds : τ → List PyData} {fr : Bool} {Γ' : τ → List Sl} (h : c = true → EvI X W Γ tg e m ds fr Γ') : EvI X W Γ tg e ((R.req c).bind fun _ => m) ds fr Γ' := by
  cases c with
  | false => exact ⟨fun pins s σ H Q I ⟨G, S, p⟩ => p.elim⟩
  | true => exact h rfl
theorem evts_req {τ : Type} {es : List Expr} {m : R τ} {b : τ → Bool} {Γ' : τ → List Sl} (h : c = true → EvTs X W Γ es m b Γ') : EvTs X W Γ es ((R.req c).bind fun _ => m) b Γ' := by
  cases c with
  | false => exact ⟨fun pins s σ H Q I ⟨G, S, p⟩ => p.elim⟩
  | true => exact h rfl
theorem ex_req {ω φ ε : Type} {view : ω → Fl φ ε} {Γf : φ → List Sl} {Xf : ε → Xo} {ss : List Stmt} {m : R ω} (h : c = true → Ex X W Γ ss m view Γf Xf) : Ex X W Γ ss ((R.req c).bind fun _ => m) view Γf Xf := by
  cases c with
  | false => exact ⟨fun pins s σ H Q I ⟨G, S, p⟩ => (p σ).elim⟩
  | true => exact h rfl
/-- a pure test in a monadic place -/
theorem EvTP.to {e : Expr} {b : Bool} (h : EvTP X W Γ e b) : EvT X W Γ e (R.val b) (fun z => z) (fun _ => Γ) := h
/-- a pure list in a monadic place -/
theorem EvFP.to {e : Expr} {ds : List PyData} {τ : Type} (h : EvFP X W Γ e ds) (x : τ) (enc : τ → List PyData) (hx : enc x = ds := by rfl) : EvF X W Γ e (R.val x) enc (fun _ => Γ) := by
  subst hx
  exact h
/-! ## shifts -/
variable {a b : Expr} {pos : Pos}
theorem evp_shl {f1 f2 : Bool} {i j : Int} (hc : cShl i j = true) (ha : EvP X W Γ a (.d f1 (.int i))) (hb : EvP X W Γ b (.d f2 (.int j))) : EvP X W Γ (.BinOp a .LShift b pos) (.d true (.int (i * 2 ^ j.toNat))) := evp_iiC (g := fun i j => i * 2 ^ j.toNat) op_shlW (cShl_ok i j hc) ha hb
theorem evp_shr {f1 f2 : Bool} {i j : Int} (hc : cShr i j = true) (ha : EvP X W Γ a (.d f1 (.int i))) (hb : EvP X W Γ b (.d f2 (.int j))) : EvP X W Γ (.BinOp a .RShift b pos) (.d true (.int (i / 2 ^ j.toNat))) := evp_iiC (g := fun i j => i / 2 ^ j.toNat) op_shr (cShr_ok i j hc) ha hb
theorem evp_mulC {f1 f2 : Bool} {i j : Int} (hc : cMul i j = true) (ha : EvP X W Γ a (.d f1 (.int i))) (hb : EvP X W Γ b (.d f2 (.int j))) : EvP X W Γ (.BinOp a .Mult b pos) (.d true (.int (i * j))) := evp_iiC op_mulW (cMul_ok i j hc) ha hb
theorem evp_divC {f1 f2 : Bool} {i j : Int} (hc : cDiv i j = true) (ha : EvP X W Γ a (.d f1 (.int i))) (hb : EvP X W Γ b (.d f2 (.int j))) : EvP X W Γ (.BinOp a .FloorDiv b pos) (.d true (.int (i / j))) := evp_iiC op_fdivW (cDiv_ok i j hc) ha hb
theorem evp_modC {f1 f2 : Bool} {i j : Int} (hc : cMod i j = true) (ha : EvP X W Γ a (.d f1 (.int i))) (hb : EvP X W Γ b (.d f2 (.int j))) : EvP X W Γ (.BinOp a .Mod b pos) (.d true (.int (i % j))) := evp_iiC op_mod (cMod_ok i j hc) ha hb
theorem evp_powC {f1 f2 : Bool} {i j : Int} (hc : cPow i j = true) (ha : EvP X W Γ a (.d f1 (.int i))) (hb : EvP X W Γ b (.d f2 (.int j))) : EvP X W Γ (.BinOp a .Pow b pos) (.d true (.int (i ^ j.toNat))) := evp_iiC (g := fun i j => i ^ j.toNat) op_pow (cPow_ok i j hc) ha hb
/-- subscripts of typed lists -/
theorem evp_ixL {α : Type} {fr f2 : Bool} {xs : List α} {enc : α → PyData} {i : Int} {x : α} (ha : EvP X W Γ a (.d fr (.list (xs.map enc)))) (hb : EvP X W Γ b (.d f2 (.int i))) (h : atI xs i = some x) (hs : PlainIx b := by exact fun _ _ => rfl) : EvP X W Γ (.Subscript a b pos) (.d fr (enc x)) :=
  evp_ix ha hb (by rw [atI_map, h]; rfl) hs
theorem evp_ixLT {α : Type} {fr f2 : Bool} {xs : List α} {enc : α → PyData} {i : Int} {x : α} (ha : EvP X W Γ a (.d fr (.tuple (xs.map enc)))) (hb : EvP X W Γ b (.d f2 (.int i))) (h : atI xs i = some x) (hs : PlainIx b := by exact fun _ _ => rfl) : EvP X W Γ (.Subscript a b pos) (.d fr (enc x)) :=
  evp_ixT ha hb (by rw [atI_map, h]; rfl) hs
theorem evp_ixLO {α : Type} {f2 : Bool} {j : Nat} {xs : List α} {enc : α → PyData} {i : Int} {x : α} (ha : EvP X W Γ a (.s j)) (hg : Γ[j]? = some (.own (.lst (xs.map enc))) ∨ Γ[j]? = some (.io (.lst (xs.map enc)))) (hb : EvP X W Γ b (.d f2 (.int i))) (h : atI xs i = some x) (hs : PlainIx b := by exact fun _ _ => rfl) : EvP X W Γ (.Subscript a b pos) (.d true (enc x)) :=
  evp_ixO ha hg hb (by rw [atI_map, h]; rfl) hs
/-! ## lengths -/
theorem evp_lenL (C : Cf X W sc N) {α : Type} {av : AV} {xs : List α} {enc : α → PyData} {e : Expr} {p : Pos} (hm : X.mg "len" = none) (hg : glB sc "len" = true) (ha : EvP X W Γ e av) (hr : Rdb Γ av (.list (xs.map enc))) (hst : starEach [e] X.env = (false, eval e X.env) :: starEach [] X.env := by rfl) :
    EvP X W Γ (.Call (.Name "len" p) [e] [] pos) (.d true (.int (xs.length : Nat))) := evp_len C hm hg ha hr (by rw [List.length_map]) hst
theorem evp_lenLT (C : Cf X W sc N) {α : Type} {fr : Bool} {xs : List α} {enc : α → PyData} {e : Expr} {p : Pos} (hm : X.mg "len" = none) (hg : glB sc "len" = true) (ha : EvP X W Γ e (.d fr (.tuple (xs.map enc)))) (hst : starEach [e] X.env = (false, eval e X.env) :: starEach [] X.env := by rfl) :
    EvP X W Γ (.Call (.Name "len" p) [e] [] pos) (.d true (.int (xs.length : Nat))) := evp_lenT C hm hg ha (by rw [List.length_map]) hst
end
end PD


set_option Elab.async false
set_option linter.all false
set_option maxRecDepth 100000
set_option maxHeartbeats 4000000
set_option autoImplicit false
namespace PD
open PySem L2
section
variable {X : Cx} {W : WX} {sc : Scope} {N : List Str} {Γ : List Sl} {pos : Pos}
/-! ## x op= e, ints -/
section
variable {ω φ ε : Type} {view : ω → Fl φ ε} {Γf : φ → List Sl} {Xf : ε → Xo} {rest : List Stmt}
theorem ex_aug (C : Cf X W sc N) (i : Nat) {x : Str} {p' : Pos} {e : Expr} {op : Operator} {g : Int → Int → Int} {P : Int → Int → Prop} {f1 f2 : Bool} {a b : Int} {k : Int → R ω} (ho : OpR X (inplaceOp op) (rI P fun i j => .int (g i j))) (hN : N[i]? = some x) (hv : Sto X sc x)
    (hg : Γ[i]? = some (.dat f1 (.int a))) (he : EvP X W Γ e (.d f2 (.int b))) (hc : P a b) (hr : ∀ r, Ex X W (Γ.set i (.dat true (.int r))) rest (k r) view Γf Xf) :
    Ex X W Γ (.AugAssign (.Name x p') op e pos :: rest) ((R.val (g a b)).bind k) view Γf Xf := by
  have hx : Loc X.env.scope x := by rw [C.hsc]; exact hv.1
  have h1 : PS X (.AugAssign (.Name x p') op e pos) _ := ps_aug (i := i) (by rw [C.hN]; exact C.nd) (by rw [C.hN]; exact hN) hx he ho (by rw [C.hsc]; exact hv.2)
  refine pss_imp (pss_cons h1 (hr (g a b))) fun D σ H ⟨G, S, p⟩ => ?_
  obtain ⟨A, T⟩ := id S
  obtain ⟨_, v, q1, q2⟩ := T.sl i _ hg
  refine ⟨v, q1, G, S, fun G1 H1 e1 u S1 h2 => ?_⟩
  refine ⟨a, b, dn_int q2, dn_int h2, hc, G1, ?_, PstS.ext p e1⟩
  exact S1.put i (.int _)
/-- xs[k] = e, the place k written, the items of any kinds -/
theorem ex_itemK (C : Cf X W sc N) {β : Type} {e o e2 : Expr} {f1 : Bool} {ds : List PyData} {n : Int} {enc : β → PyData} {m : R β} {Γ1 : β → List Sl} {dsr : β → List PyData} {tpos : Pos} {k : β → R ω} (i : Nat) (io : Bool) (j : Nat) (ha : Ev X W Γ e m (fun r => .d true (enc r)) Γ1)
    (ho : ∀ r, EvP X W (Γ1 r) o (.s i)) (hix : ∀ r, EvP X W (Γ1 r) e2 (.d f1 (.int n))) (hi : ∀ r, (Γ1 r)[i]? = some (mkS io (.lst (dsr r)))) (hj : ∀ r, ixN (dsr r).length n = some j) (hr : ∀ r, Ex X W ((Γ1 r).set i (mkS io (.lst ((dsr r).set j (enc r))))) rest (k r) view Γf Xf)
    (has : ∀ v, assign (.Subscript o e2 tpos) X.env v = (do
      let ov ← holding [v] (eval o X.env)
      let iv ← holding [v, ov] (eval e2 X.env)
      standAt tpos
      holding [v, ov, iv] (setItem ov iv v)
      release [v, ov, iv] []) := by intro _; rfl)
    (hs : swapsWithSole [.Subscript o e2 tpos] e pos.line X.env = pure false := by rfl) (hw : swappedStores [.Subscript o e2 tpos] e X.env = pure none := by rfl) (h1 : (assignEach [.Subscript o e2 tpos] X.env).map (·.2) = [assign (.Subscript o e2 tpos) X.env] := by rfl) :
    Ex X W Γ (.Assign [.Subscript o e2 tpos] e pos :: rest) (m.bind k) view Γf Xf := by
  refine pss_imp (pss_cons (ps_asg ha (pg_sub (pe_any ho) (pe_any hix) set_list has) hs hw h1) (pss_any hr)) fun D σ H ⟨G, S, p⟩ => ⟨G, S, (PstS.bind p).imp fun r G1 H1 e1 p1 v S1 av => ?_⟩
  refine ⟨r, G1, S1, fun G2 H2 e2' ov S2 hov => ⟨r, G2, S2, fun G3 H3 e3 iv S3 hiv => ?_⟩⟩
  obtain ⟨q, vs, g1, g2, g3, g4⟩ := S3.chg i io (hi r)
  have hov : σ[i]? = some (some ov) := hov
  rw [g1] at hov
  cases hov
  have hl : vs.length = (dsr r).length := g3.length
  obtain ⟨S4, e4⟩ := g4 (vs.set j v) ((dsr r).set j (enc r)) (g3.set (e3.dn (e2'.dn av)) j)
  exact ⟨q, vs, n, j, rfl, dn_int hiv, g2, by rw [hl]; exact hj r, r, G3, S4, PstS.ext p1 ((e2'.tr e3).tr e4)⟩
/-- name = [..] on one line, the name a plain local -/
theorem ex_setG (C : Cf X W sc N) (i : Nat) {x : Str} {p' : Pos} {e : Expr} {τ : Type} {m : R τ} {ds : τ → List PyData} {Γ1 : τ → List Sl} {k : τ → R ω} (h1 : PS X (.Assign [.Name x p'] e pos) (tAsg (rdF X W Γ m ds Γ1) (gName i)))
    (hr : ∀ r, Ex X W ((Γ1 r).set i (.own (.lst (ds r)))) rest (k r) view Γf Xf) : Ex X W Γ (.Assign [.Name x p'] e pos :: rest) (m.bind k) view Γf Xf := by
  refine pss_imp (pss_cons h1 (pss_any hr)) fun D σ H ⟨G, S, p⟩ => ?_
  refine ⟨G, S, (PstS.bind p).imp fun r G1 H1 e1 p1 q vs S1 hq hd => ?_⟩
  obtain ⟨S2, e2⟩ := S1.putOwn i hq hd
  exact ⟨r, G1, S2, p1.ext e2⟩
/-- either way -/
def SetC (X : Cx) (W : WX) (Γ : List Sl) (x : Str) (p' : Pos) (e : Expr) (pos : Pos) (i : Nat) {τ : Type} (m : R τ) (ds : τ → List PyData) (Γ1 : τ → List Sl) : Prop := PS X (.Assign [.Name x p'] e pos) (tAsg (rdF X W Γ m ds Γ1) (gName i))
end
/-! ## comprehensions: set, pure, without a state -/
section
variable {tg iter elt : Expr} {ifs : List Expr} {scope : Scope} {own : List (Str × Nat)} {α β ι S τ ρ : Type} {enc : α → PyData} {fr : Bool} {ts : List Nat} {f : α → List Sl → List Sl} {mi : R ι} {items : ι → List α} {Γi : ι → List Sl} {s0 : ι → S} {Γs : S → List Sl}
  {tt : S → α → R τ} {bt : τ → Bool} {Γt : τ → α → List Sl} {st : τ → S} {te : τ → α → R ρ} {se : ρ → S} {out : ρ → β} {encO : β → PyData}
theorem set_comp (C : Cf X W sc N) (hk : sc.kind = .function) {i : Nat} {y : Str} {py spos : Pos} (hN : N[i]? = some y) (hy : lclB sc y = true) (hl : (py.line == pos.line) = true) (hnn : (scope.names.any fun (n, k) => n == y && (k == .local || k == .cell)) = false)
    (hin : EvI X W Γ tg iter mi (fun r => (items r).map enc) fr Γi) (ok : blkC N sc scope own = true) {Γe : ρ → α → List Sl}
    (hg : ∀ (s : Shared) (H : Hp) (c : Addr) (cl : List (Str × Addr)) (fp : List Addr), Tgt (X.blk s H scope (compEnvC scope cl c X.env) fp) tg enc fr ts f)
    (ht : ∀ (s : Shared) (H : Hp) (c : Addr) (cl : List (Str × Addr)) (fp : List Addr) (z : S) (x : α), EvTs (X.blk s H scope (compEnvC scope cl c X.env) fp) WF (f x (Γs z)) ifs (tt z x) bt (fun t => Γt t x))
    (he : ∀ (s : Shared) (H : Hp) (c : Addr) (cl : List (Str × Addr)) (fp : List Addr) (t : τ) (x : α), Ev (X.blk s H scope (compEnvC scope cl c X.env) fp) WF (Γt t x) elt (te t x) (fun y => .d true (encO (out y))) (fun y => Γe y x))
    (hi : ∀ r, Γs (s0 r) = wipeG (Γi r) (own.map (·.2))) (hts : ∀ j ∈ ts, j ∈ own.map (·.2)) (htl : ∀ t x, Γs (st t) = wipeG (Γt t x) (own.map (·.2))) (hel : ∀ z x, Γs (se z) = wipeG (Γe z x) (own.map (·.2)))
    (hun : ∀ s j, j ∈ own.map (·.2) → j < (Γs s).length → (Γs s)[j]? = some .un) (hs : ∀ x, foldedSetIterable iter X.env x = pure x := by intro _; rfl) :
    SetC X W Γ y py (.ListComp elt [⟨tg, iter, ifs, 0⟩] scope pos) spos i (mi.bind fun r => (R.req (szB (items r))).bind fun _ => compR tt bt st te se out (items r) (s0 r)) (fun z => z.2.map encO) (fun z => Γs z.1) := by
  have hB : BlkOk X.N X.env.scope scope own := by rw [C.hN, C.hsc]; exact blkOk_by ok
  have hyl : X.env.scope.names.lookup y = some .local := by
    rw [C.hsc]
    unfold lclB at hy
    split at hy
    · assumption
    · cases hy
  refine ps_imp (ps_setLc (g := fun v σ H Q => ∃ G Γ x, Sta X.K G H σ Γ ∧ Dn X.K (rg G fr) H v (enc x) ∧ ∀ σ' : St, List.length σ' = List.length σ → (∀ j, j ∉ ts → σ'[j]? = σ[j]?) → Sta X.K G H σ' (f x Γ) → Q σ' H)
    (tt := fun σ H Q => ∃ z : S × α, rdT X WF (f z.2 (Γs z.1)) (tt z.1 z.2) bt (fun t => Γt t z.2) σ H Q) (te := fun σ H Q => ∃ z : τ × α, rdE X WF (Γt z.1 z.2) (te z.1 z.2) (fun y => .d true (encO (out y))) (fun y => Γe y z.2) σ H Q)
    C.calm (by rw [C.hN]; exact C.nd) (by rw [C.hN]; exact hN) hyl (sw_true (by rw [C.hsc]; exact hk) hyl hl hnn) hin hB (fun s H c cl fp => hg s H c cl fp) (fun s H c cl fp => ?_) (fun s H c cl fp => ?_) hs) fun D σ H h => comp_rd hi hts htl hel hun h
  · exact ⟨fun pins s' σ H' Q I ⟨z, q⟩ => (ht s H c cl fp z.1 z.2).run pins s' σ H' Q I q⟩
  · exact ⟨fun pins s' σ H' Q I ⟨z, q⟩ => (he s H c cl fp z.1 z.2).run pins s' σ H' Q I q⟩
end
end
/-- without a state, pure -/
theorem compR_pure {α β : Type} (b : α → Bool) (v : α → β) : ∀ xs : List α, compR (S := Unit) (τ := Bool) (ρ := β) (fun _ x => .val (b x)) (fun t => t) (fun _ => ()) (fun _ x => .val (v x)) (fun _ => ()) (fun z => z) xs () = .val ((), (xs.filter b).map v)
  | [] => rfl
  | x :: xs => by
    rw [compR_cons, compR_pure b v xs]
    show (if b x = true then _ else _) = _
    cases h : b x <;> simp [h] <;> rfl
/-- without a state -/
def R.comp {α β : Type} (t : α → R Bool) (e : α → R β) : List α → R (List β)
  | [] => .val []
  | x :: xs => (t x).nox.bind fun b => if b then (e x).nox.bind fun y => (R.comp t e xs).bind fun ys => .val (y :: ys) else R.comp t e xs
theorem compR_comp {α β : Type} (t : α → R Bool) (e : α → R β) : ∀ xs : List α, compR (S := Unit) (τ := Bool) (ρ := β) (fun _ x => t x) (fun t => t) (fun _ => ()) (fun _ x => e x) (fun _ => ()) (fun z => z) xs () = (R.comp t e xs).bind fun ys => .val ((), ys)
  | [] => rfl
  | x :: xs => by
    rw [compR_cons, R.comp, compR_comp t e xs, R.bind_assoc]
    congr 1
    funext b
    cases b with
    | false => rfl
    | true =>
      show (R.bind _ _) = R.bind (R.bind _ _) _
      rw [R.bind_assoc]
      congr 1
      funext y
      rw [R.bind_assoc, R.bind_assoc]
      rfl
/-- a reading told otherwise -/
theorem rdF_map {X : Cx} {W : WX} {Γ : List Sl} {τ ρ : Type} {m : R τ} {m' : R ρ} {g : ρ → τ} {ds : τ → List PyData} {Γ' : τ → List Sl} (h : m = m'.bind fun r => .val (g r)) {σ : St} {H : Hp} {Q : VK} (q : rdF X W Γ m' (fun r => ds (g r)) (fun r => Γ' (g r)) σ H Q) : rdF X W Γ m ds Γ' σ H Q := by
  subst h
  obtain ⟨G, S, p⟩ := q
  refine ⟨G, S, ?_⟩
  cases m' with
  | bad => exact p
  | exc x => exact p
  | val r => exact p
theorem EvF.re {X : Cx} {W : WX} {Γ : List Sl} {e : Expr} {τ ρ : Type} {m : R τ} {m' : R ρ} {ds : τ → List PyData} {Γ' : τ → List Sl} (he : EvF X W Γ e m ds Γ') (g : ρ → τ) (h : m = m'.bind fun r => .val (g r)) : EvF X W Γ e m' (fun r => ds (g r)) (fun r => Γ' (g r)) :=
  pe_imp he fun _ _ _ q => rdF_map h q
theorem SetC.re {X : Cx} {W : WX} {Γ : List Sl} {y : Str} {py pos : Pos} {e : Expr} {i : Nat} {τ ρ : Type} {m : R τ} {m' : R ρ} {ds : τ → List PyData} {Γ' : τ → List Sl} (he : SetC X W Γ y py e pos i m ds Γ') (g : ρ → τ) (h : m = m'.bind fun r => .val (g r)) :
    SetC X W Γ y py e pos i m' (fun r => ds (g r)) (fun r => Γ' (g r)) :=
  ps_imp he fun _ _ _ q => rdF_map h q
end PD


set_option Elab.async false
set_option linter.all false
set_option maxRecDepth 100000
set_option maxHeartbeats 4000000
set_option autoImplicit false
namespace PD
open PySem L2
/-! ## pure iteration -/
abbrev EvIP (X : Cx) (W : WX) (Γ : List Sl) (tg e : Expr) (ds : List PyData) (fr : Bool) : Prop := EvI X W Γ tg e (R.val ()) (fun _ => ds) fr (fun _ => Γ)
section
variable {X : Cx} {W : WX} {sc : Scope} {N : List Str} {Γ : List Sl} {tg e e2 e3 : Expr} {pos p : Pos} {α β : Type}
theorem evip_list {fr : Bool} {ds : List PyData} (h : EvP X W Γ e (.d fr (.list ds))) : EvIP X W Γ tg e ds fr := evi_list h
theorem evip_tup {fr : Bool} {ds : List PyData} (h : EvP X W Γ e (.d fr (.tuple ds))) : EvIP X W Γ tg e ds fr := evi_tup h
theorem evip_range1 (C : Cf X W sc N) {f : Bool} {n : Int} (hm : X.mg "range" = none) (hg : glB sc "range" = true) (hc : cRng 0 n = true) (ha : EvP X W Γ e (.d f (.int n))) (hst : starEach [e] X.env = [(false, eval e X.env)] := by rfl) :
    EvIP X W Γ tg (.Call (.Name "range" p) [e] [] pos) ((rng 0 n).map PyData.int) true := by
  have h := evi_range1 (tg := tg) (p := p) (pos := pos) C hm hg (evap_cons ha eva_nil (by rw [hst]; rfl)) (fun _ => ()) (fun _ => Γ) (fun _ => n) (fun _ => rfl) (fun _ => rfl) hst
  have e : ((R.val ()).bind fun r => if cRng 0 n = true then R.val ((fun _ => ()) r) else R.bad) = R.val () := by show (if cRng 0 n = true then _ else _) = _; rw [if_pos hc]
  rw [e] at h
  exact h
theorem evip_range2 (C : Cf X W sc N) {f f2 : Bool} {lo n : Int} (hm : X.mg "range" = none) (hg : glB sc "range" = true) (hc : cRng lo n = true) (ha : EvP X W Γ e (.d f (.int lo))) (hb : EvP X W Γ e2 (.d f2 (.int n))) (hst : starEach [e, e2] X.env = [(false, eval e X.env), (false, eval e2 X.env)] := by rfl) (hst2 : starEach [e2] X.env = [(false, eval e2 X.env)] := by rfl) :
    EvIP X W Γ tg (.Call (.Name "range" p) [e, e2] [] pos) ((rng lo n).map PyData.int) true := by
  have h := evi_range2 (tg := tg) (p := p) (pos := pos) C hm hg (evap_cons ha (evap_cons hb eva_nil (by rw [hst2]; rfl)) (by rw [hst, hst2])) (fun _ => ()) (fun _ => Γ) (fun _ => lo) (fun _ => n) (fun _ => rfl) (fun _ => rfl) (fun _ => rfl) hst hst2
  have e : ((R.val ()).bind fun r => if cRng lo n = true then R.val ((fun _ => ()) r) else R.bad) = R.val () := by show (if cRng lo n = true then _ else _) = _; rw [if_pos hc]
  rw [e] at h
  exact h
/-- range(i, j, c) -/
def rng3 (i j c : Int) : List Int := (List.range (Builtin.Range.rangeSize i j c).toNat).map fun k => i + (k : Nat) * c
def cRng3 (i j c : Int) : Bool := decide (c ≠ 0) && decide (c.natAbs < 1073741824) && Builtin.Range.small i j c && decide (0 ≤ Builtin.Range.rangeSize i j c)
theorem itd_rangeC {K : PySem.W.Frag} {G : Gh} {H : Hp} {lo c : Int} {n : Nat} {ds : List PyData} (hd : ds = (List.range n).map fun i => PyData.int (lo + (i : Nat) * c)) : ItD K G H (Itc lo c n) ds true := by
  subst hd
  have hl : ((List.range n).map fun i => PyData.int (lo + (i : Nat) * c)).length = n := by simp
  refine ⟨fun i G2 H2 hi e => by rw [hl] at hi; exact hi, fun i G2 H2 σ Γ v H3 hi e S y => ?_, fun G2 H2 e => by show n ≤ _; rw [hl]; exact Nat.le_refl _⟩
  rw [hl] at hi
  obtain ⟨rfl, rfl⟩ := y
  exact ⟨G2, _, by simp [hi], Ext.rf S.w, S, .int _⟩
theorem evip_range3 (C : Cf X W sc N) {f f2 f3 : Bool} {i j c : Int} (hm : X.mg "range" = none) (hg : glB sc "range" = true) (hc : cRng3 i j c = true) (ha : EvP X W Γ e (.d f (.int i))) (hb : EvP X W Γ e2 (.d f2 (.int j))) (h3 : EvP X W Γ e3 (.d f3 (.int c)))
    (hst : starEach [e, e2, e3] X.env = (false, eval e X.env) :: starEach [e2, e3] X.env := by rfl) (hst2 : starEach [e2, e3] X.env = (false, eval e2 X.env) :: starEach [e3] X.env := by rfl) (hst3 : starEach [e3] X.env = (false, eval e3 X.env) :: starEach [] X.env := by rfl) (hpl : (backTo pos (starEach [e2, e3] X.env)).any (·.1) = false := by rfl) :
    EvIP X W Γ tg (.Call (.Name "range" p) [e, e2, e3] [] pos) ((rng3 i j c).map PyData.int) true :=
  pi_imp (pi_range3 (C.gl hg) hm (evap_cons ha (evap_cons hb (evap_cons h3 eva_nil hst3) hst2) hst) hst hpl) fun σ H Q ⟨G, S, p⟩ => ⟨G, S, fun G1 H1 e1 vs S1 av => by
    cases av with
    | cons a1 r =>
      cases r with
      | cons a2 r =>
        obtain ⟨v3, rfl, a3⟩ := avs_one r
        unfold cRng3 at hc
        simp only [Bool.and_eq_true, decide_eq_true_eq] at hc
        refine ⟨i, j, c, (Builtin.Range.rangeSize i j c).toNat, by rw [dn_int a1, dn_int a2, dn_int a3], ⟨hc.1.1.1, hc.1.1.2, hc.1.2, by rw [Int.toNat_of_nonneg hc.2]⟩, p G1 H1 e1 _ S1 (itd_rangeC ?_)⟩
        unfold rng3
        rw [List.map_map]
        rfl⟩
/-- enumerate, typed -/
def enumI (xs : List α) : List (Int × α) := xs.mapIdx fun i x => ((i : Nat), x)
theorem enumI_ds (enc : α → PyData) (xs : List α) : enumD (xs.map enc) = (enumI xs).map fun z => .tuple [.int z.1, enc z.2] := by
  unfold enumD enumI
  apply List.ext_getElem?
  intro i
  simp [List.getElem?_mapIdx]
  cases xs[i]? <;> rfl
theorem evip_enum (C : Cf X W sc N) {elts : List Expr} {kk : Nat} {tpos : Pos} {fr : Bool} {enc : α → PyData} {xs : List α} (hm : X.mg "enumerate" = none) (hg : glB sc "enumerate" = true) (ha : EvP X W Γ e (.d fr (.list (xs.map enc)))) (hst : starEach [e] X.env = [(false, eval e X.env)] := by rfl) :
    EvIP X W Γ (.Tuple elts kk tpos) (.Call (.Name "enumerate" p) [e] [] pos) ((enumI xs).map fun z => .tuple [.int z.1, enc z.2]) fr := by
  rw [← enumI_ds]
  exact evi_enum C hm hg ha hst
theorem evip_enumT (C : Cf X W sc N) {elts : List Expr} {kk : Nat} {tpos : Pos} {fr : Bool} {enc : α → PyData} {xs : List α} (hm : X.mg "enumerate" = none) (hg : glB sc "enumerate" = true) (ha : EvP X W Γ e (.d fr (.tuple (xs.map enc)))) (hst : starEach [e] X.env = [(false, eval e X.env)] := by rfl) :
    EvIP X W Γ (.Tuple elts kk tpos) (.Call (.Name "enumerate" p) [e] [] pos) ((enumI xs).map fun z => .tuple [.int z.1, enc z.2]) fr := by
  rw [← enumI_ds]
  exact evi_enumT C hm hg ha hst
theorem zip_ds (e1 : α → PyData) (e2 : β → PyData) (xs : List α) (ys : List β) : zipD (xs.map e1) (ys.map e2) = (List.zip xs ys).map fun z => .tuple [e1 z.1, e2 z.2] := by
  unfold zipD List.zip
  rw [List.zipWith_map, List.map_zipWith]
theorem evip_zip (C : Cf X W sc N) {elts : List Expr} {kk : Nat} {tpos : Pos} {fr : Bool} {e1 : α → PyData} {e2' : β → PyData} {xs : List α} {ys : List β} (hm : X.mg "zip" = none) (hg : glB sc "zip" = true) (ha : EvP X W Γ e (.d fr (.list (xs.map e1)))) (hb : EvP X W Γ e2 (.d fr (.list (ys.map e2'))))
    (hst : starEach [e, e2] X.env = [(false, eval e X.env), (false, eval e2 X.env)] := by rfl) (hst2 : starEach [e2] X.env = [(false, eval e2 X.env)] := by rfl) :
    EvIP X W Γ (.Tuple elts kk tpos) (.Call (.Name "zip" p) [e, e2] [] pos) ((List.zip xs ys).map fun z => .tuple [e1 z.1, e2' z.2]) fr := by
  rw [← zip_ds]
  exact evi_zip C hm hg (evap_cons ha (evap_cons hb eva_nil (by rw [hst2]; rfl)) (by rw [hst, hst2])) hst hst2
theorem itd_zipT {K : PySem.W.Frag} {G : Gh} {H : Hp} {a b : Addr} {xs ys : List V} {ds es : List PyData} {fr : Bool} (h : SqT K H a xs) (hd : DnA K (rg G fr) H xs ds) (h' : SqT K H b ys) (hd' : DnA K (rg G fr) H ys es) : ItD K G H (RZ.ItzT K a b) (zipD ds es) fr := by
  have sq : ∀ G2 H2, Le G H G2 H2 → SqT K H2 a xs := fun G2 H2 e => e.t.seq h
  have sq' : ∀ G2 H2, Le G H G2 H2 → SqT K H2 b ys := fun G2 H2 e => e.t.seq h'
  have hl := hd.length
  have hl' := hd'.length
  have hl2 : (zipD ds es).length = min xs.length ys.length := by unfold zipD; simp [hl, hl']
  refine ⟨fun i G2 H2 hi e => ?_, fun i G2 H2 σ Γ v H3 hi e S y => ?_, fun G2 H2 e => ⟨xs, ys, sq G2 H2 e, sq' G2 H2 e, by rw [hl2]; omega⟩⟩
  · rw [hl2] at hi
    exact ⟨xs, ys, xs[i]'(by omega), ys[i]'(by omega), sq G2 H2 e, sq' G2 H2 e, by simp, by simp⟩
  · obtain ⟨T, x, z, rfl, hT, rfl, hy, hy'⟩ := y
    obtain ⟨d, h1, h2⟩ := (e.dna hd).get (hy xs (sq G2 _ e))
    obtain ⟨d', h1', h2'⟩ := (e.dna hd').get (hy' ys (sq' G2 _ e))
    obtain ⟨G3, e3, S3, h3⟩ := sta_pair S hT h2 h2'
    refine ⟨G3, _, ?_, e3, S3, h3⟩
    unfold zipD
    rw [List.getElem?_zipWith, h1, h1']
theorem evip_zipT (C : Cf X W sc N) {elts : List Expr} {kk : Nat} {tpos : Pos} {fr : Bool} {e1 : α → PyData} {e2' : β → PyData} {xs : List α} {ys : List β} (hm : X.mg "zip" = none) (hg : glB sc "zip" = true) (ha : EvP X W Γ e (.d fr (.tuple (xs.map e1)))) (hb : EvP X W Γ e2 (.d fr (.tuple (ys.map e2'))))
    (hst : starEach [e, e2] X.env = (false, eval e X.env) :: starEach [e2] X.env := by rfl) (hst2 : starEach [e2] X.env = (false, eval e2 X.env) :: starEach [] X.env := by rfl) (hpl : (backTo pos (starEach [e2] X.env)).any (·.1) = false := by rfl) :
    EvIP X W Γ (.Tuple elts kk tpos) (.Call (.Name "zip" p) [e, e2] [] pos) ((List.zip xs ys).map fun z => .tuple [e1 z.1, e2' z.2]) fr := by
  rw [← zip_ds]
  exact pi_imp (RZ.pi_zipA (C.gl hg) hm (evap_cons ha (evap_cons hb eva_nil hst2) hst) hst hpl) fun σ H Q ⟨G, S, p⟩ => ⟨G, S, fun G1 H1 e1 vs S1 h => by
    obtain ⟨v, u, rfl, q1, q2⟩ := avs_two h
    obtain ⟨q, xs, rfl, g1, g2⟩ := dn_tuple q1
    obtain ⟨q', ys, rfl, g1', g2'⟩ := dn_tuple q2
    exact ⟨q, q', xs, ys, rfl, .inr ⟨g1, g1', p G1 H1 e1 _ S1 (itd_zipT g1 g2 g1' g2')⟩⟩⟩
/-- sorted(set(xs)) -/
theorem evf_sset (C : Cf X W sc N) {ma : R α} {Γ1 : α → List Sl} {fr : Bool} {ns : α → List Int} {a : Expr} {p2 q : Pos} (hg : glB sc "sorted" = true) (hm : X.mg "sorted" = none) (hg2 : glB sc "set" = true) (hm2 : X.mg "set" = none) (ha : Ev X W Γ a ma (fun r => .d fr (.list ((ns r).map PyData.int))) Γ1)
    (na : starEach [a] X.env = (false, eval a X.env) :: starEach [] X.env := by rfl) :
    EvF X W Γ (.Call (.Name "sorted" p) [.Call (.Name "set" p2) [a] [] q] [] pos) (ma.bind fun r => (R.req (lt64 (ns r))).bind fun _ => .val r) (fun r => (setI (ns r)).map PyData.int) Γ1 :=
  pe_imp (pe_sset C.calm (C.gl hg) hm (C.gl hg2) hm2 ha na) fun σ H Q ⟨G, S, p⟩ => ⟨G, S, (Pst.bind p).imp fun r G1 H1 e1 p1 v S1 h => by
    obtain ⟨l, xs, rfl, g1, g2⟩ := dn_list h
    obtain ⟨c, p2⟩ := Pst.req p1
    rw [dna_ints g2] at g1
    exact ⟨l, ns r, rfl, .inl (g1.mono (S1.w.rgl fr)).sq, of_decide_eq_true c, fun q hq => p2 G1 H1 (Ext.rf S1.w) q _ S1 hq (ints_dna _)⟩⟩
theorem evf_ssetT (C : Cf X W sc N) {ma : R α} {Γ1 : α → List Sl} {fr : Bool} {ns : α → List Int} {a : Expr} {p2 q : Pos} (hg : glB sc "sorted" = true) (hm : X.mg "sorted" = none) (hg2 : glB sc "set" = true) (hm2 : X.mg "set" = none) (ha : Ev X W Γ a ma (fun r => .d fr (.tuple ((ns r).map PyData.int))) Γ1)
    (na : starEach [a] X.env = (false, eval a X.env) :: starEach [] X.env := by rfl) :
    EvF X W Γ (.Call (.Name "sorted" p) [.Call (.Name "set" p2) [a] [] q] [] pos) (ma.bind fun r => (R.req (lt64 (ns r))).bind fun _ => .val r) (fun r => (setI (ns r)).map PyData.int) Γ1 :=
  pe_imp (pe_sset C.calm (C.gl hg) hm (C.gl hg2) hm2 ha na) fun σ H Q ⟨G, S, p⟩ => ⟨G, S, (Pst.bind p).imp fun r G1 H1 e1 p1 v S1 h => by
    obtain ⟨l, xs, rfl, g1, g2⟩ := dn_tuple h
    obtain ⟨c, p2⟩ := Pst.req p1
    rw [dna_ints g2] at g1
    exact ⟨l, ns r, rfl, .inr g1, of_decide_eq_true c, fun q hq => p2 G1 H1 (Ext.rf S1.w) q _ S1 hq (ints_dna _)⟩⟩
end
end PD


set_option Elab.async false
set_option linter.all false
set_option maxRecDepth 100000
set_option maxHeartbeats 4000000
set_option autoImplicit false
namespace PD
open PySem L2
/-! ## comprehensions over a pure iterable, no state -/
section
variable {X : Cx} {W : WX} {sc : Scope} {N : List Str} {Γ Γ0 : List Sl} {pos : Pos} {tg iter elt : Expr} {ifs : List Expr} {scope : Scope} {own : List (Str × Nat)} {α β : Type} {enc : α → PyData} {fr : Bool} {ts : List Nat} {f : α → List Sl → List Sl} {items : List α}
  {t : α → R Bool} {el : α → R β} {encO : β → PyData}
structure CompOk (X : Cx) (W : WX) (sc : Scope) (N : List Str) (Γ Γ0 : List Sl) (tg iter elt : Expr) (ifs : List Expr) (scope : Scope) (own : List (Str × Nat)) {α β : Type} (enc : α → PyData) (fr : Bool) (ts : List Nat) (f : α → List Sl → List Sl) (items : List α) (t : α → R Bool) (el : α → R β) (encO : β → PyData) : Prop where
  hin : EvIP X W Γ tg iter (items.map enc) fr
  ok : blkC N sc scope own = true
  hg : ∀ (s : Shared) (H : Hp) (c : Addr) (cl : List (Str × Addr)) (fp : List Addr), Tgt (X.blk s H scope (compEnvC scope cl c X.env) fp) tg enc fr ts f
  ht : ∀ (s : Shared) (H : Hp) (c : Addr) (cl : List (Str × Addr)) (fp : List Addr) (x : α), EvTs (X.blk s H scope (compEnvC scope cl c X.env) fp) WF (f x Γ0) ifs (t x) (fun t => t) (fun _ => f x Γ0)
  he : ∀ (s : Shared) (H : Hp) (c : Addr) (cl : List (Str × Addr)) (fp : List Addr) (x : α), Ev (X.blk s H scope (compEnvC scope cl c X.env) fp) WF (f x Γ0) elt (el x) (fun y => .d true (encO y)) (fun _ => f x Γ0)
  hi : Γ0 = wipeG Γ (own.map (·.2))
  hts : ∀ j ∈ ts, j ∈ own.map (·.2)
  hf : ∀ x, Γ0 = wipeG (f x Γ0) (own.map (·.2))
  hun : ∀ j, j ∈ own.map (·.2) → j < Γ0.length → Γ0[j]? = some .un
  hs : ∀ x, foldedSetIterable iter X.env x = pure x
theorem comp_eqM : ((R.val ()).bind fun r : Unit => (R.req (szB items)).bind fun _ => compR (S := Unit) (τ := Bool) (ρ := β) (fun _ x => t x) (fun t => t) (fun _ => ()) (fun _ x => el x) (fun _ => ()) (fun z => z) items ()) =
    (((R.req (szB items)).bind fun _ => R.comp t el items).bind fun ys => .val ((), ys)) := by
  rw [R.bind_assoc]
  show ((R.req (szB items)).bind fun _ => compR (S := Unit) (τ := Bool) (ρ := β) (fun _ x => t x) (fun t => t) (fun _ => ()) (fun _ x => el x) (fun _ => ()) (fun z => z) items ()) = _
  rw [compR_comp t el items]
theorem evf_compM (C : Cf X W sc N) (h : CompOk X W sc N Γ Γ0 tg iter elt ifs scope own enc fr ts f items t el encO) :
    EvF X W Γ (.ListComp elt [⟨tg, iter, ifs, 0⟩] scope pos) ((R.req (szB items)).bind fun _ => R.comp t el items) (fun ys => ys.map encO) (fun _ => Γ0) := by
  have q := evf_comp (S := Unit) (s0 := fun _ => ()) (Γs := fun _ => Γ0) (tt := fun _ x => t x) (bt := fun t => t) (Γt := fun _ x => f x Γ0) (st := fun _ => ()) (te := fun _ x => el x) (se := fun _ => ()) (out := fun z => z) (encO := encO) (pos := pos)
    C h.hin h.ok (Γe := fun _ x => f x Γ0) h.hg (fun s H c cl fp z x => h.ht s H c cl fp x) (fun s H c cl fp z x => h.he s H c cl fp x) (fun _ => h.hi) h.hts (fun _ x => h.hf x) (fun _ x => h.hf x) (fun _ => h.hun) h.hs
  exact q.re (fun ys => ((), ys)) comp_eqM
theorem set_compM (C : Cf X W sc N) (hk : sc.kind = .function) {i : Nat} {y : Str} {py spos : Pos} (hN : N[i]? = some y) (hy : lclB sc y = true) (hl : (py.line == pos.line) = true) (hnn : (scope.names.any fun (n, k) => n == y && (k == .local || k == .cell)) = false)
    (h : CompOk X W sc N Γ Γ0 tg iter elt ifs scope own enc fr ts f items t el encO) :
    SetC X W Γ y py (.ListComp elt [⟨tg, iter, ifs, 0⟩] scope pos) spos i ((R.req (szB items)).bind fun _ => R.comp t el items) (fun ys => ys.map encO) (fun _ => Γ0) := by
  have q := set_comp (S := Unit) (s0 := fun _ => ()) (Γs := fun _ => Γ0) (tt := fun _ x => t x) (bt := fun t => t) (Γt := fun _ x => f x Γ0) (st := fun _ => ()) (te := fun _ x => el x) (se := fun _ => ()) (out := fun z => z) (encO := encO) (pos := pos) (spos := spos)
    C hk hN hy hl hnn h.hin h.ok (Γe := fun _ x => f x Γ0) h.hg (fun s H c cl fp z x => h.ht s H c cl fp x) (fun s H c cl fp z x => h.he s H c cl fp x) (fun _ => h.hi) h.hts (fun _ x => h.hf x) (fun _ x => h.hf x) (fun _ => h.hun) h.hs
  exact q.re (fun ys => ((), ys)) comp_eqM
theorem comp_pure (b : α → Bool) (v : α → β) : ∀ xs : List α, R.comp (fun x => .val (b x)) (fun x => .val (v x)) xs = .val ((xs.filter b).map v)
  | [] => rfl
  | x :: xs => by
    rw [R.comp, comp_pure b v xs]
    show (if b x = true then _ else _) = _
    cases h : b x <;> simp [h] <;> rfl
theorem evf_compP (C : Cf X W sc N) {b : α → Bool} {v : α → β} (h : CompOk X W sc N Γ Γ0 tg iter elt ifs scope own enc fr ts f items (fun x => .val (b x)) (fun x => .val (v x)) encO) :
    EvF X W Γ (.ListComp elt [⟨tg, iter, ifs, 0⟩] scope pos) ((R.req (szB items)).bind fun _ => R.val ((items.filter b).map v)) (fun ys => ys.map encO) (fun _ => Γ0) := by
  have q := evf_compM (pos := pos) C h
  rw [comp_pure] at q
  exact q
theorem set_compP (C : Cf X W sc N) {b : α → Bool} {v : α → β} (hk : sc.kind = .function) {i : Nat} {y : Str} {py spos : Pos} (hN : N[i]? = some y) (hy : lclB sc y = true) (hl : (py.line == pos.line) = true) (hnn : (scope.names.any fun (n, k) => n == y && (k == .local || k == .cell)) = false)
    (h : CompOk X W sc N Γ Γ0 tg iter elt ifs scope own enc fr ts f items (fun x => .val (b x)) (fun x => .val (v x)) encO) :
    SetC X W Γ y py (.ListComp elt [⟨tg, iter, ifs, 0⟩] scope pos) spos i ((R.req (szB items)).bind fun _ => R.val ((items.filter b).map v)) (fun ys => ys.map encO) (fun _ => Γ0) := by
  have q := set_compM (pos := pos) (spos := spos) C hk hN hy hl hnn h
  rw [comp_pure] at q
  exact q
theorem evts_tt : EvTs X W Γ [] (R.val true) (fun t => t) (fun _ => Γ) := ⟨fun pins s σ H Q I ⟨G, S, p⟩ => pts_nil.run pins s σ H Q I (p G H (Ext.rf S.w) S)⟩
end
/-! ## and, or, if-else with parts that do something -/
section
variable {X : Cx} {W : WX} {Γ : List Sl} {a b c : Expr} {rest : List Expr} {pos : Pos} {α β γ : Type} {ma : R α} {ba : α → Bool} {Γa : α → List Sl} {mb : α → R β} {bb : α → β → Bool} {Γb : α → β → List Sl} {Γk : γ → List Sl} {bk : γ → Bool}
def EvWM (X : Cx) (W : WX) (Γ : List Sl) (e : Expr) {τ : Type} (m : R τ) (b : τ → Bool) (Γ' : τ → List Sl) : Prop := PW X e (rdT X W Γ m b Γ')
theorem EvWM.t {e : Expr} (h : EvWM X W Γ e ma ba Γa) : EvT X W Γ e ma ba Γa := PW.pt h
theorem evw_orM1 (h : EvT X W Γ a ma ba Γa) : EvWM X W Γ (.BoolOp .Or [a] pos) ma ba Γa := pw_or1 h
theorem evw_andM1 (h : EvT X W Γ a ma ba Γa) : EvWM X W Γ (.BoolOp .And [a] pos) ma ba Γa := pw_and1 h
theorem evw_orM (ha : EvT X W Γ a ma ba Γa) (hb : ∀ x, EvWM X W (Γa x) (.BoolOp .Or (b :: rest) pos) (mb x) (bb x) (Γb x)) (k1 : α → γ) (k2 : α → β → γ) (h1 : ∀ x, bk (k1 x) = true := by intros; rfl) (h2 : ∀ x, Γk (k1 x) = Γa x := by intros; rfl) (h3 : ∀ x y, bk (k2 x y) = bb x y := by intros; rfl) (h4 : ∀ x y, Γk (k2 x y) = Γb x y := by intros; rfl) :
    EvWM X W Γ (.BoolOp .Or (a :: b :: rest) pos) (ma.bind fun x => if ba x then .val (k1 x) else (mb x).bind fun y => .val (k2 x y)) bk Γk :=
  pw_imp (pw_or ha (pw_any hb)) fun σ H Q ⟨G, S, p⟩ => ⟨G, S, (Pst.bind p).imp fun x G1 H1 e1 p1 S1 => by
    cases hx : ba x with
    | true =>
      rw [if_pos hx] at p1
      have q := p1 G1 H1 (Ext.rf S1.w) (by rw [h2]; exact S1)
      rw [h1] at q
      exact itT q
    | false =>
      rw [if_neg (by rw [hx]; decide)] at p1
      exact itF ⟨x, G1, S1, (Pst.bind p1).imp fun y G2 H2 e2 p2 S2 => by
        have q := p2 G2 H2 (Ext.rf S2.w) (by rw [h4]; exact S2)
        rw [h3] at q
        exact q⟩⟩
theorem evw_andM (ha : EvT X W Γ a ma ba Γa) (hb : ∀ x, EvWM X W (Γa x) (.BoolOp .And (b :: rest) pos) (mb x) (bb x) (Γb x)) (k1 : α → γ) (k2 : α → β → γ) (h1 : ∀ x, bk (k1 x) = false := by intros; rfl) (h2 : ∀ x, Γk (k1 x) = Γa x := by intros; rfl) (h3 : ∀ x y, bk (k2 x y) = bb x y := by intros; rfl) (h4 : ∀ x y, Γk (k2 x y) = Γb x y := by intros; rfl) :
    EvWM X W Γ (.BoolOp .And (a :: b :: rest) pos) (ma.bind fun x => if ba x then (mb x).bind fun y => .val (k2 x y) else .val (k1 x)) bk Γk :=
  pw_imp (pw_and ha (pw_any hb)) fun σ H Q ⟨G, S, p⟩ => ⟨G, S, (Pst.bind p).imp fun x G1 H1 e1 p1 S1 => by
    cases hx : ba x with
    | false =>
      rw [if_neg (by rw [hx]; decide)] at p1
      have q := p1 G1 H1 (Ext.rf S1.w) (by rw [h2]; exact S1)
      rw [h1] at q
      exact itF q
    | true =>
      rw [if_pos hx] at p1
      exact itT ⟨x, G1, S1, (Pst.bind p1).imp fun y G2 H2 e2 p2 S2 => by
        have q := p2 G2 H2 (Ext.rf S2.w) (by rw [h4]; exact S2)
        rw [h3] at q
        exact q⟩⟩
/-! values -/
variable {f1 f2 : Bool}
theorem evv_oneM {op : BoolOp} {av : α → AV} (ha : Ev X W Γ a ma av Γa) : Ev X W Γ (.BoolOp op [a] pos) ma av Γa := pe_one ha
theorem evv_orM (ha : Ev X W Γ a ma (fun x => .d f1 (.bool (ba x))) Γa) (hb : ∀ x, Ev X W (Γa x) (.BoolOp .Or (b :: rest) pos) (mb x) (fun y => .d f2 (.bool (bb x y))) (Γb x)) (k1 : α → γ) (k2 : α → β → γ) (h1 : ∀ x, bk (k1 x) = true := by intros; rfl) (h2 : ∀ x, Γk (k1 x) = Γa x := by intros; rfl) (h3 : ∀ x y, bk (k2 x y) = bb x y := by intros; rfl) (h4 : ∀ x y, Γk (k2 x y) = Γb x y := by intros; rfl) :
    Ev X W Γ (.BoolOp .Or (a :: b :: rest) pos) (ma.bind fun x => if ba x then .val (k1 x) else (mb x).bind fun y => .val (k2 x y)) (fun z => .d true (.bool (bk z))) Γk :=
  pe_imp (pe_or ha (pe_any hb)) fun σ H Q ⟨G, S, p⟩ => ⟨G, S, (Pst.bind p).imp fun x G1 H1 e1 p1 v S1 hv => by
    refine ⟨ba x, dn_bool hv, ?_⟩
    cases hx : ba x with
    | true =>
      rw [if_pos hx] at p1
      exact itT (p1 G1 H1 (Ext.rf S1.w) _ (by rw [h2]; exact S1) (by show Dn _ _ _ _ _; rw [h1]; exact .bl _))
    | false =>
      rw [if_neg (by rw [hx]; decide)] at p1
      exact itF ⟨x, G1, S1, (Pst.bind p1).imp fun y G2 H2 e2 p2 w S2 hw => p2 G2 H2 (Ext.rf S2.w) _ (by rw [h4]; exact S2) (by show Dn _ _ _ _ _; rw [dn_bool hw, h3]; exact .bl _)⟩⟩
theorem evv_andM (ha : Ev X W Γ a ma (fun x => .d f1 (.bool (ba x))) Γa) (hb : ∀ x, Ev X W (Γa x) (.BoolOp .And (b :: rest) pos) (mb x) (fun y => .d f2 (.bool (bb x y))) (Γb x)) (k1 : α → γ) (k2 : α → β → γ) (h1 : ∀ x, bk (k1 x) = false := by intros; rfl) (h2 : ∀ x, Γk (k1 x) = Γa x := by intros; rfl) (h3 : ∀ x y, bk (k2 x y) = bb x y := by intros; rfl) (h4 : ∀ x y, Γk (k2 x y) = Γb x y := by intros; rfl) :
    Ev X W Γ (.BoolOp .And (a :: b :: rest) pos) (ma.bind fun x => if ba x then (mb x).bind fun y => .val (k2 x y) else .val (k1 x)) (fun z => .d true (.bool (bk z))) Γk :=
  pe_imp (pe_and ha (pe_any hb)) fun σ H Q ⟨G, S, p⟩ => ⟨G, S, (Pst.bind p).imp fun x G1 H1 e1 p1 v S1 hv => by
    refine ⟨ba x, dn_bool hv, ?_⟩
    cases hx : ba x with
    | false =>
      rw [if_neg (by rw [hx]; decide)] at p1
      exact itF (p1 G1 H1 (Ext.rf S1.w) _ (by rw [h2]; exact S1) (by show Dn _ _ _ _ _; rw [h1]; exact .bl _))
    | true =>
      rw [if_pos hx] at p1
      exact itT ⟨x, G1, S1, (Pst.bind p1).imp fun y G2 H2 e2 p2 w S2 hw => p2 G2 H2 (Ext.rf S2.w) _ (by rw [h4]; exact S2) (by show Dn _ _ _ _ _; rw [dn_bool hw, h3]; exact .bl _)⟩⟩
/-- a if c else b -/
theorem ev_ife {av : γ → AV} {m1 m2 : α → R γ} (hc : EvT X W Γ c ma ba Γa) (h1 : ∀ x, Ev X W (Γa x) a (m1 x) av Γk) (h2 : ∀ x, Ev X W (Γa x) b (m2 x) av Γk) : Ev X W Γ (.IfExp c a b pos) (ma.bind fun x => if ba x then m1 x else m2 x) av Γk :=
  pe_imp (pe_ifExp hc (pe_any h1) (pe_any h2)) fun σ H Q ⟨G, S, p⟩ => ⟨G, S, (Pst.bind p).imp fun x G1 H1 e1 p1 S1 => by
    cases hx : ba x with
    | true => rw [if_pos hx] at p1; exact itT ⟨x, G1, S1, p1⟩
    | false => rw [if_neg (by rw [hx]; decide)] at p1; exact itF ⟨x, G1, S1, p1⟩⟩
theorem evp_ife {x : Bool} {fr : Bool} {d1 d2 d : PyData} (hc : EvTP X W Γ c x) (h1 : EvP X W Γ a (.d fr d1)) (h2 : EvP X W Γ b (.d fr d2)) (hd : (if x then d1 else d2) = d := by rfl) : EvP X W Γ (.IfExp c a b pos) (.d fr d) := by
  subst hd
  refine pe_imp (pe_ifExp hc h1 h2) fun σ H Q ⟨G, S, p⟩ => ⟨G, S, fun G1 H1 e1 S1 => ?_⟩
  cases x with
  | true => exact itT ⟨G1, S1, fun G2 H2 e2 v S2 hv => p G2 H2 (e1.tr e2) v S2 hv⟩
  | false => exact itF ⟨G1, S1, fun G2 H2 e2 v S2 hv => p G2 H2 (e1.tr e2) v S2 hv⟩
theorem evv_notM (ha : Ev X W Γ a ma (fun x => .d f1 (.bool (ba x))) Γa) : Ev X W Γ (.UnaryOp .Not a pos) ma (fun x => .d true (.bool (!ba x))) Γa :=
  pe_imp (pe_not ha) fun σ H Q ⟨G, S, p⟩ => ⟨G, S, p.imp fun x G1 H1 e1 k v S1 hv => ⟨ba x, dn_bool hv, k _ S1 (.bl _)⟩⟩
end
end PD


set_option Elab.async false
set_option linter.all false
set_option maxRecDepth 100000
set_option maxHeartbeats 4000000
set_option autoImplicit false
namespace PD
open PySem L2
/-! ## a def that keeps its promise, by its name -/
def Gv (P : Program) (w : World) (K : PySem.W.Frag) (mg : Str → Option Value) (base : Heap) (k : Nat) (x : Str) (dvs : List V) (sp : Sp) : Prop :=
  ∃ (f : Addr) (fd : FuncData) (ps : List Str) (ds : List Value), FnOk P w K mg base (L2.CX P w) k f fd ps sp ∧ mg x = some (.ref f) ∧ PySem.W.keepIn K (.ref f) = true ∧ Binds K fd ps ds ∧ Vals dvs ds
theorem Gv.clee {P : Program} {w : World} {K : PySem.W.Frag} {mg : Str → Option Value} {base : Heap} {k k' : Nat} {x : Str} {dvs : List V} {sp : Sp} {X : Cx} {W : WX} {scope : Scope} {N : List Str} (g : Gv P w K mg base k x dvs sp) (h : Here X W P w K mg base scope N k') (hk : k ≤ k') : Clee X x dvs sp := by
  obtain ⟨f, fd, ps, ds, h1, h2, h3, h4, h5⟩ := g
  refine ⟨k, f, fd, ps, ds, ?_, h.room.mono hk, ?_, ?_, ?_, h5⟩
  · rw [h.prog, h.w, h.K, h.mg, h.base]; exact h1
  · rw [h.mg]; exact h2
  · rw [h.K]; exact h3
  · rw [h.K]; exact h4
theorem Gv.of {P : Program} {w : World} {K : PySem.W.Frag} {mg : Str → Option Value} {base : Heap} {k : Nat} {x x' qual : Str} {params : Arguments} {body : List Stmt} {scope : Scope} {dvs : List V} {kws : List (Str × V)} {f : Addr} {fd : FuncData} {ps : List Str} {dv : List V} {ds : List Value} {sp : Sp}
    (F : FunD K x qual params body scope dvs kws f fd) (hm : mg x' = some (.ref f)) (ok : FnOk P w K mg base (L2.CX P w) k f fd ps sp) (b : Binds K fd ps ds) (hv : Vals dv ds) : Gv P w K mg base k x' dv sp := ⟨f, fd, ps, ds, ok, hm, F.kp, b, hv⟩
/-! ## equality of typed data -/
structure EqT {α : Type} [DecidableEq α] (enc : α → PyData) (k : Nat) : Prop where
  lay : ∀ x, (enc x).canLay0 = true
  dep : ∀ x, (enc x).depth ≤ k
  eq : ∀ x y, PyData.eqv (enc x) (enc y) = decide (x = y)
theorem eqt_int : EqT PyData.int 0 := ⟨fun _ => rfl, fun _ => Nat.le_refl _, fun x y => by show (x == y) = _; rfl⟩
theorem eqt_bool : EqT PyData.bool 0 := ⟨fun _ => rfl, fun _ => Nat.le_refl _, fun x y => by cases x <;> cases y <;> rfl⟩
section
variable {α β γ : Type} [DecidableEq α] [DecidableEq β] [DecidableEq γ] {e1 : α → PyData} {e2 : β → PyData} {e3 : γ → PyData} {k k2 k3 : Nat}
theorem EqT.layA (h : EqT e1 k) : ∀ xs : List α, PyData.canLayAll0 (xs.map e1) = true
  | [] => rfl
  | x :: xs => by simp [PyData.canLayAll0, h.lay x, EqT.layA h xs]
theorem EqT.depA (h : EqT e1 k) : ∀ xs : List α, PyData.depthAll (xs.map e1) ≤ k
  | [] => Nat.zero_le _
  | x :: xs => by
    have a := h.dep x
    have b := EqT.depA h xs
    simp only [List.map_cons, PyData.depthAll]
    omega
theorem EqT.eqA (h : EqT e1 k) : ∀ xs ys : List α, PyData.eqvAll (xs.map e1) (ys.map e1) = decide (xs = ys)
  | [], [] => rfl
  | [], y :: ys => by simp [PyData.eqvAll]
  | x :: xs, [] => by simp [PyData.eqvAll]
  | x :: xs, y :: ys => by simp [PyData.eqvAll, h.eq x y, EqT.eqA h xs ys]
theorem eqt_list (h : EqT e1 k) : EqT (fun xs : List α => PyData.list (xs.map e1)) (k + 1) :=
  ⟨fun xs => by simpa [PyData.canLay0] using h.layA xs, fun xs => by simpa [PyData.depth] using h.depA xs, fun xs ys => by simpa [PyData.eqv] using h.eqA xs ys⟩
theorem eqt_tup (h : EqT e1 k) : EqT (fun xs : List α => PyData.tuple (xs.map e1)) (k + 1) :=
  ⟨fun xs => by simpa [PyData.canLay0] using h.layA xs, fun xs => by simpa [PyData.depth] using h.depA xs, fun xs ys => by simpa [PyData.eqv] using h.eqA xs ys⟩
theorem eqt_p2 (h : EqT e1 k) (h2 : EqT e2 k2) : EqT (fun z : α × β => PyData.tuple [e1 z.1, e2 z.2]) (max k k2 + 1) :=
  ⟨fun z => by simp [PyData.canLay0, PyData.canLayAll0, h.lay, h2.lay], fun z => by have a := h.dep z.1; have b := h2.dep z.2; simp [PyData.depth, PyData.depthAll]; omega, fun x y => by
    obtain ⟨x1, x2⟩ := x
    obtain ⟨y1, y2⟩ := y
    simp [PyData.eqv, PyData.eqvAll, h.eq, h2.eq]⟩
theorem eqt_p3 (h : EqT e1 k) (h2 : EqT e2 k2) (h3 : EqT e3 k3) : EqT (fun z : α × β × γ => PyData.tuple [e1 z.1, e2 z.2.1, e3 z.2.2]) (max k (max k2 k3) + 1) :=
  ⟨fun z => by simp [PyData.canLay0, PyData.canLayAll0, h.lay, h2.lay, h3.lay], fun z => by have a := h.dep z.1; have b := h2.dep z.2.1; have c := h3.dep z.2.2; simp [PyData.depth, PyData.depthAll]; omega, fun x y => by
    obtain ⟨x1, x2, x3⟩ := x
    obtain ⟨y1, y2, y3⟩ := y
    simp [PyData.eqv, PyData.eqvAll, h.eq, h2.eq, h3.eq]⟩
theorem EqT.sh (h : EqT e1 k) (hk : k ≤ 64) (x : α) : SeqAt.shaped (e1 x) = true := by
  unfold SeqAt.shaped
  rw [h.lay x, Bool.true_and]
  exact decide_eq_true (Nat.le_trans (h.dep x) hk)
end
section
variable {X : Cx} {W : WX} {sc : Scope} {N : List Str} {Γ : List Sl} {pos : Pos} {a b : Expr} {α : Type} [DecidableEq α] {k : Nat}
theorem evp_eqT (C : Cf X W sc N) {enc : α → PyData} (h : EqT enc k) {x y : α} {a1 a2 : AV} (ha : EvP X W Γ a a1) (hb : EvP X W Γ b a2) (h1 : Rdb Γ a1 (enc x)) (h2 : Rdb Γ a2 (enc y)) (hk : k ≤ 64 := by decide) : EvP X W Γ (.Compare a [.Eq] [b] pos) (.d true (.bool (decide (x = y)))) :=
  evp_eq C ha hb h1 h2 (h.sh hk x) (h.sh hk y) (h.eq x y)
theorem evp_neT (C : Cf X W sc N) {enc : α → PyData} (h : EqT enc k) {x y : α} {a1 a2 : AV} (ha : EvP X W Γ a a1) (hb : EvP X W Γ b a2) (h1 : Rdb Γ a1 (enc x)) (h2 : Rdb Γ a2 (enc y)) (hk : k ≤ 64 := by decide) : EvP X W Γ (.Compare a [.NotEq] [b] pos) (.d true (.bool (!decide (x = y)))) :=
  evp_ne C ha hb h1 h2 (h.sh hk x) (h.sh hk y) (h.eq x y)
end
/-! ## operators whose parts do something -/
section
variable {X : Cx} {W : WX} {sc : Scope} {N : List Str} {Γ : List Sl} {pos : Pos} {a b : Expr} {α β γ δ : Type} {ma : R α} {mb : α → R β} {Γa : α → List Sl} {Γb : α → β → List Sl} {Γk : γ → List Sl} {f1 f2 : Bool}
theorem ev_cmpI {op : CmpOp} {g : Int → Int → Bool} {fa : α → Int} {fb : α → β → Int} (ho : OpR X (compareOp op) (rI0 fun i j => .bl (g i j))) (hm : behindInMarks op b = false) (ha : Ev X W Γ a ma (fun x => .d f1 (.int (fa x))) Γa) (hb : ∀ x, Ev X W (Γa x) b (mb x) (fun y => .d f2 (.int (fb x y))) (Γb x))
    (kk : α → β → γ) (fk : γ → Bool) (h1 : ∀ x y, fk (kk x y) = g (fa x) (fb x y) := by intros; rfl) (h2 : ∀ x y, Γk (kk x y) = Γb x y := by intros; rfl) :
    Ev X W Γ (.Compare a [op] [b] pos) (ma.bind fun x => (mb x).bind fun y => .val (kk x y)) (fun z => .d true (.bool (fk z))) Γk := by
  refine pe_imp (pe_cmpR ho ha (pe_any hb) hm) fun σ H Q h => bin_rd (fun x y G H σ u v Q S au av p => ?_) h
  refine ⟨fa x, fb x y, dn_int au, dn_int av, p G H (Ext.rf S.w) _ (by rw [h2]; exact S) ?_⟩
  show Dn _ _ _ _ _
  rw [h1]
  exact .bl _
theorem ev_ltM {fa : α → Int} {fb : α → β → Int} (ha : Ev X W Γ a ma (fun x => .d f1 (.int (fa x))) Γa) (hb : ∀ x, Ev X W (Γa x) b (mb x) (fun y => .d f2 (.int (fb x y))) (Γb x)) (kk : α → β → γ) (fk : γ → Bool) (h1 : ∀ x y, fk (kk x y) = decide (fa x < fb x y) := by intros; rfl) (h2 : ∀ x y, Γk (kk x y) = Γb x y := by intros; rfl) :
    Ev X W Γ (.Compare a [.Lt] [b] pos) (ma.bind fun x => (mb x).bind fun y => .val (kk x y)) (fun z => .d true (.bool (fk z))) Γk := ev_cmpI op_lt (nobehind _ (by decide) (by decide)) ha hb kk fk h1 h2
theorem ev_leM {fa : α → Int} {fb : α → β → Int} (ha : Ev X W Γ a ma (fun x => .d f1 (.int (fa x))) Γa) (hb : ∀ x, Ev X W (Γa x) b (mb x) (fun y => .d f2 (.int (fb x y))) (Γb x)) (kk : α → β → γ) (fk : γ → Bool) (h1 : ∀ x y, fk (kk x y) = decide (fa x ≤ fb x y) := by intros; rfl) (h2 : ∀ x y, Γk (kk x y) = Γb x y := by intros; rfl) :
    Ev X W Γ (.Compare a [.LtE] [b] pos) (ma.bind fun x => (mb x).bind fun y => .val (kk x y)) (fun z => .d true (.bool (fk z))) Γk := ev_cmpI op_le (nobehind _ (by decide) (by decide)) ha hb kk fk h1 h2
theorem ev_gtM {fa : α → Int} {fb : α → β → Int} (ha : Ev X W Γ a ma (fun x => .d f1 (.int (fa x))) Γa) (hb : ∀ x, Ev X W (Γa x) b (mb x) (fun y => .d f2 (.int (fb x y))) (Γb x)) (kk : α → β → γ) (fk : γ → Bool) (h1 : ∀ x y, fk (kk x y) = decide (fb x y < fa x) := by intros; rfl) (h2 : ∀ x y, Γk (kk x y) = Γb x y := by intros; rfl) :
    Ev X W Γ (.Compare a [.Gt] [b] pos) (ma.bind fun x => (mb x).bind fun y => .val (kk x y)) (fun z => .d true (.bool (fk z))) Γk := ev_cmpI (g := fun i j => decide (j < i)) op_gt (nobehind _ (by decide) (by decide)) ha hb kk fk h1 h2
theorem ev_geM {fa : α → Int} {fb : α → β → Int} (ha : Ev X W Γ a ma (fun x => .d f1 (.int (fa x))) Γa) (hb : ∀ x, Ev X W (Γa x) b (mb x) (fun y => .d f2 (.int (fb x y))) (Γb x)) (kk : α → β → γ) (fk : γ → Bool) (h1 : ∀ x y, fk (kk x y) = decide (fb x y ≤ fa x) := by intros; rfl) (h2 : ∀ x y, Γk (kk x y) = Γb x y := by intros; rfl) :
    Ev X W Γ (.Compare a [.GtE] [b] pos) (ma.bind fun x => (mb x).bind fun y => .val (kk x y)) (fun z => .d true (.bool (fk z))) Γk := ev_cmpI (g := fun i j => decide (j ≤ i)) op_ge (nobehind _ (by decide) (by decide)) ha hb kk fk h1 h2
theorem ev_eqM (C : Cf X W sc N) [DecidableEq δ] {enc : δ → PyData} {k : Nat} (he : EqT enc k) {fa : α → δ} {fb : α → β → δ} (ha : Ev X W Γ a ma (fun x => .d f1 (enc (fa x))) Γa) (hb : ∀ x, Ev X W (Γa x) b (mb x) (fun y => .d f2 (enc (fb x y))) (Γb x)) (kk : α → β → γ) (fk : γ → Bool)
    (h1 : ∀ x y, fk (kk x y) = decide (fa x = fb x y) := by intros; rfl) (h2 : ∀ x y, Γk (kk x y) = Γb x y := by intros; rfl) (hk : k ≤ 64 := by decide) :
    Ev X W Γ (.Compare a [.Eq] [b] pos) (ma.bind fun x => (mb x).bind fun y => .val (kk x y)) (fun z => .d true (.bool (fk z))) Γk := by
  refine pe_imp (pe_cmpR (op_eqD C.hu) ha (pe_any hb) (nobehind _ (by decide) (by decide))) fun σ H Q h => bin_rd (fun x y G H σ u v Q S au av p => ?_) h
  refine ⟨_, _, (S.w.dn au).dp, (S.w.dn av).dp, he.sh hk _, he.sh hk _, p G H (Ext.rf S.w) _ (by rw [h2]; exact S) ?_⟩
  show Dn _ _ _ _ _
  rw [h1, he.eq]
  exact .bl _
theorem ev_neM (C : Cf X W sc N) [DecidableEq δ] {enc : δ → PyData} {k : Nat} (he : EqT enc k) {fa : α → δ} {fb : α → β → δ} (ha : Ev X W Γ a ma (fun x => .d f1 (enc (fa x))) Γa) (hb : ∀ x, Ev X W (Γa x) b (mb x) (fun y => .d f2 (enc (fb x y))) (Γb x)) (kk : α → β → γ) (fk : γ → Bool)
    (h1 : ∀ x y, fk (kk x y) = !decide (fa x = fb x y) := by intros; rfl) (h2 : ∀ x y, Γk (kk x y) = Γb x y := by intros; rfl) (hk : k ≤ 64 := by decide) :
    Ev X W Γ (.Compare a [.NotEq] [b] pos) (ma.bind fun x => (mb x).bind fun y => .val (kk x y)) (fun z => .d true (.bool (fk z))) Γk := by
  refine pe_imp (pe_cmpR (op_neD C.hu) ha (pe_any hb) (nobehind _ (by decide) (by decide))) fun σ H Q h => bin_rd (fun x y G H σ u v Q S au av p => ?_) h
  refine ⟨_, _, (S.w.dn au).dp, (S.w.dn av).dp, he.sh hk _, he.sh hk _, p G H (Ext.rf S.w) _ (by rw [h2]; exact S) ?_⟩
  show Dn _ _ _ _ _
  rw [h1, he.eq]
  exact .bl _
theorem ev_ixM {fr : Bool} {enc : δ → PyData} {xs : α → List δ} {n : α → β → Int} (ha : Ev X W Γ a ma (fun x => .d fr (.list ((xs x).map enc))) Γa) (hb : ∀ x, Ev X W (Γa x) b (mb x) (fun y => .d f2 (.int (n x y))) (Γb x)) (kk : α → β → δ → γ) (vk : γ → δ)
    (h1 : ∀ x y z, vk (kk x y z) = z := by intros; rfl) (h2 : ∀ x y z, Γk (kk x y z) = Γb x y := by intros; rfl) (hs : PlainIx b := by exact fun _ _ => rfl) :
    Ev X W Γ (.Subscript a b pos) (ma.bind fun x => (mb x).bind fun y => (R.ofO (atI (xs x) (n x y))).bind fun z => .val (kk x y z)) (fun z => .d fr (enc (vk z))) Γk := by
  refine pe_imp (pe_ix ix_list ha (pe_any hb) hs) fun σ H Q h => bin_rd (fun x y G H σ u v Q S au av p => ?_) h
  cases hz : atI (xs x) (n x y) with
  | none => rw [hz] at p; exact p.elim
  | some z =>
    rw [hz] at p
    obtain ⟨q, vs, rfl, g1, g2⟩ := dn_list au
    obtain ⟨w, g3, g4⟩ := atI_dn g2 (by rw [atI_map, hz]; rfl)
    exact ⟨q, vs, n x y, w, rfl, dn_int av, (g1.mono (S.w.rgl fr)).sq, g3, p G H (Ext.rf S.w) w (by rw [h2]; exact S) (by show Dn _ _ _ _ _; rw [h1]; exact g4)⟩
theorem ev_ixMT {fr : Bool} {enc : δ → PyData} {xs : α → List δ} {n : α → β → Int} (ha : Ev X W Γ a ma (fun x => .d fr (.tuple ((xs x).map enc))) Γa) (hb : ∀ x, Ev X W (Γa x) b (mb x) (fun y => .d f2 (.int (n x y))) (Γb x)) (kk : α → β → δ → γ) (vk : γ → δ)
    (h1 : ∀ x y z, vk (kk x y z) = z := by intros; rfl) (h2 : ∀ x y z, Γk (kk x y z) = Γb x y := by intros; rfl) (hs : PlainIx b := by exact fun _ _ => rfl) :
    Ev X W Γ (.Subscript a b pos) (ma.bind fun x => (mb x).bind fun y => (R.ofO (atI (xs x) (n x y))).bind fun z => .val (kk x y z)) (fun z => .d fr (enc (vk z))) Γk := by
  refine pe_imp (pe_ix ix_tup ha (pe_any hb) hs) fun σ H Q h => bin_rd (fun x y G H σ u v Q S au av p => ?_) h
  cases hz : atI (xs x) (n x y) with
  | none => rw [hz] at p; exact p.elim
  | some z =>
    rw [hz] at p
    obtain ⟨q, vs, rfl, g1, g2⟩ := dn_tuple au
    obtain ⟨w, g3, g4⟩ := atI_dn g2 (by rw [atI_map, hz]; rfl)
    exact ⟨q, vs, n x y, w, rfl, dn_int av, g1, g3, p G H (Ext.rf S.w) w (by rw [h2]; exact S) (by show Dn _ _ _ _ _; rw [h1]; exact g4)⟩
end
/-! ## flat data -/
section
variable {α β : Type} {e1 : α → PyData} {e2 : β → PyData}
theorem flatA_map (h : ∀ x, flat (e1 x) = true) : ∀ xs : List α, flat.flatA (xs.map e1) = true
  | [] => rfl
  | x :: xs => by simp [flat.flatA, h x, flatA_map h xs]
theorem flat_tup (h : ∀ x, flat (e1 x) = true) (xs : List α) : flat (.tuple (xs.map e1)) = true := by simpa [flat] using flatA_map h xs
theorem flat_p2 {a b : PyData} (h : flat a = true) (h2 : flat b = true) : flat (.tuple [a, b]) = true := by simp [flat, flat.flatA, h, h2]
theorem flat_p3 {a b c : PyData} (h : flat a = true) (h2 : flat b = true) (h3 : flat c = true) : flat (.tuple [a, b, c]) = true := by simp [flat, flat.flatA, h, h2, h3]
end
end PD


set_option Elab.async false
set_option linter.all false
set_option maxRecDepth 100000
set_option maxHeartbeats 4000000
set_option autoImplicit false
namespace PD
open PySem L2
/-- a list of one's own is given away -/
theorem Sta.release {K : PySem.W.Frag} {G : Gh} {H : Hp} {σ : St} {Γ : List Sl} {ds : List PyData} (s : Sta K G H σ Γ) (i : Nat) (hi : Γ[i]? = some (.own (.lst ds))) :
    ∃ p vs, σ[i]? = some (some (.ref p)) ∧ Sta K G (PD.del H p) σ (Γ.set i .un) ∧ Ext G H G (PD.del H p) ∧ upd (PD.del H p) p (.lst vs) = H ∧ DnA K (rg G true) (PD.del H p) vs ds := by
  obtain ⟨A, S⟩ := s
  obtain ⟨v, h1, h0, p, vs, rfl, hfp, hp, hd⟩ := S.sl i _ hi
  have hpA : p ∈ A i := by rw [hfp]; simp
  have hN : G.N p = none := (S.al i p hpA).2.1
  have h00 : G.H0 p = none := h0 p hpA
  have hP : p ∉ G.P := fun z => S.w.p0 p z h00
  have hE : G.E p = none := S.ae i p hpA
  have nA : ∀ j, j ≠ i → p ∉ A j := fun j hj h => hj (S.dj j i p h hpA)
  have t : TupLe H (PD.del H p) := fun a xs h => by
    rcases h with h | ⟨u, h⟩
    · exact .inl (by rw [del_ne (fun z => by rw [z, hp] at h; cases h)]; exact h)
    · exact .inr ⟨u, by rw [del_ne (fun z => by rw [z, hp] at h; cases h)]; exact h⟩
  have w : Wf G (PD.del H p) := by
    refine ⟨fun a u h h2 => ?_, fun a u h => ?_, fun a h => ?_, S.w.p0, fun a u h => ?_⟩
    · rw [del_ne (fun z => by rw [z, h00] at h; cases h)]
      exact S.w.keep a u h h2
    · rw [del_ne (fun z => by rw [z, hN] at h; cases h)]
      exact S.w.new a u h
    · rw [del_ne (show a ≠ p from fun z => hP (z ▸ h))]
      exact S.w.pal a h
    · rw [del_ne (fun z => by rw [z, hE] at h; cases h)]
      exact S.w.ex a u h
  have e : Ext G H G (PD.del H p) := ⟨rfl, rfl, rfl, rfl, fun _ _ h => h, t, w⟩
  refine ⟨p, vs, h1, ⟨fun j => if j = i then [] else A j, w, by rw [List.length_set]; exact S.len, fun j s h => ?_, fun j q h => ?_, fun j q h => ?_, fun j k q h h2 => ?_⟩, e, del_upd hp, e.dna hd⟩
  · by_cases hj : j = i
    · subst hj
      rw [List.getElem?_set_self (List.getElem?_eq_some_iff.mp hi).1] at h
      cases h
      show (if j = j then [] else A j) = []
      rw [if_pos rfl]
    · rw [List.getElem?_set_ne (Ne.symm hj)] at h
      show SlOk K G (PD.del H p) j σ[j]? (if j = i then [] else A j) s
      rw [if_neg hj]
      exact (S.sl j s h).mono e fun a ha => del_ne (fun z => nA j hj (z ▸ ha))
  · by_cases hj : j = i
    · rw [if_pos hj] at h; cases h
    · rw [if_neg hj] at h
      exact ⟨by rw [del_ne (show q ≠ p from fun z => nA j hj (z ▸ h))]; exact (S.al j q h).1, (S.al j q h).2⟩
  · by_cases hj : j = i
    · rw [if_pos hj] at h; cases h
    · rw [if_neg hj] at h
      exact S.ae j q h
  · by_cases hj : j = i
    · rw [if_pos hj] at h; cases h
    · by_cases hk : k = i
      · rw [if_pos hk] at h2; cases h2
      · rw [if_neg hj] at h
        rw [if_neg hk] at h2
        exact S.dj j k q h h2
section
variable {X : Cx} {W : WX} {sc : Scope} {N : List Str} {Γ : List Sl} {pos : Pos} {ω φ ε : Type} {view : ω → Fl φ ε} {Γf : φ → List Sl} {Xf : ε → Xo} {rest : List Stmt}
/-- return of a list of one's own -/
theorem ex_retO (i : Nat) {e : Expr} {ds : List PyData} {k : ω} {ke : ε} (he : EvP X W Γ e (.s i)) (hg : Γ[i]? = some (.own (.lst ds))) (io : List (Nat × Cl)) (hio : ioOk (Γ.set i .un) io) (hv : view k = .ex ke := by rfl) (hx : Xf ke = .rtF ds io := by rfl) :
    Ex X W Γ [.Return (some e) pos] (.val k) view Γf Xf := by
  refine pss_imp (pss_one (ps_ret he)) fun D σ H ⟨G, S, p⟩ => ⟨G, S, fun G1 H1 e1 v S1 a1 => ?_⟩
  obtain ⟨q, vs, g1, g2, g3, g4, g5⟩ := S1.release i hg
  have a1 : σ[i]? = some (some v) := a1
  rw [g1] at a1
  cases a1
  have z : Fin X.K G1 (PD.del H1 q) D Γf Xf (view k) := p σ G1 _ (e1.tr g3)
  rw [hv] at z
  have z : FinX _ _ _ _ _ := z
  rw [hx] at z
  have r := z σ _ q vs g2 hio del_same g5
  rw [g4] at r
  exact r
theorem ex_bad {ss : List Stmt} : Ex X W Γ ss (R.bad : R ω) view Γf Xf := ⟨fun pins s σ H Q I ⟨G, S, p⟩ => (p σ).elim⟩
/-- if, the first branch leaves, told by what it leaves with -/
theorem ex_ifE {c : Expr} {a : List Stmt} {τ : Type} {mc : R τ} {b : τ → Bool} {Γc : τ → List Sl} {mA : τ → R ε} {mB : τ → R ω} (inj : ε → ω) (hc : EvT X W Γ c mc b Γc) (hA : ∀ r, Ex X W (Γc r) a (mA r) (fun e => (.ex e : Fl Empty ε)) (fun z => z.elim) Xf)
    (hB : ∀ r, Ex X W (Γc r) rest (mB r) view Γf Xf) (hi : ∀ e, view (inj e) = .ex e := by intros; rfl) :
    Ex X W Γ (.If c a [] pos :: rest) (mc.bind fun r => if b r then (mA r).bind (fun e => .val (inj e)) else mB r) view Γf Xf := by
  refine pss_imp (pss_cons (ps_if hc (pss_any hA) pss_nil) (pss_any hB)) fun D σ H ⟨G, S, p⟩ => ?_
  refine ⟨G, S, (PstS.bind p).imp fun r G1 H1 e1 p1 S1 => ?_⟩
  cases hb : b r with
  | true =>
    refine itT ?_
    rw [if_pos hb] at p1
    refine ⟨r, G1, S1, (PstS.bindS p1).imp fun w G2 H2 e2 q => ?_⟩
    have q : Fin X.K G2 H2 D Γf Xf (view (inj w)) := q σ G2 H2 (Ext.rf e2.w)
    rw [hi] at q
    have q : FinX _ _ _ _ _ := q
    show FinX _ _ _ _ _
    cases ho : Xf w with
    | rt d Γ' => rw [ho] at q; exact q
    | rtF d Γ' => rw [ho] at q; exact q
    | bk Γ' => rw [ho] at q; exact q
    | ct Γ' => rw [ho] at q; exact q
  | false =>
    refine itF ?_
    rw [if_neg (by rw [hb]; simp)] at p1
    exact ⟨r, G1, S1, p1⟩
/-- if, neither branch leaves -/
theorem ex_ifS {c : Expr} {a b' : List Stmt} {τ J : Type} {mc : R τ} {b : τ → Bool} {Γc : τ → List Sl} {mA : τ → R J} {mB : τ → R J} {Γj : J → List Sl} {mR : J → R ω} (hc : EvT X W Γ c mc b Γc)
    (hA : ∀ r, Ex X W (Γc r) a (mA r) (fun j => (.nx j : Fl J ε)) Γj Xf) (hB : ∀ r, Ex X W (Γc r) b' (mB r) (fun j => (.nx j : Fl J ε)) Γj Xf) (hR : ∀ j, Ex X W (Γj j) rest (mR j) view Γf Xf) :
    Ex X W Γ (.If c a b' pos :: rest) (mc.bind fun r => (if b r then mA r else mB r).bind mR) view Γf Xf := by
  refine pss_imp (pss_cons (ps_if hc (pss_any hA) (pss_any hB)) (pss_any hR)) fun D σ H ⟨G, S, p⟩ => ?_
  refine ⟨G, S, (PstS.bind p).imp fun r G1 H1 e1 p1 S1 => ?_⟩
  cases hb : b r with
  | true =>
    refine itT ?_
    rw [if_pos hb] at p1
    exact ⟨r, G1, S1, (PstS.bindS p1).imp fun w G2 H2 e2 q σ' S' => ⟨w, G2, S', q⟩⟩
  | false =>
    refine itF ?_
    rw [if_neg (by rw [hb]; simp)] at p1
    exact ⟨r, G1, S1, (PstS.bindS p1).imp fun w G2 H2 e2 q σ' S' => ⟨w, G2, S', q⟩⟩
/-! pure tests -/
theorem ex_ifXP {c : Expr} {a : List Stmt} {b : Bool} {mA mB : R ω} {viewA : ω → Fl Empty ε} (hc : EvTP X W Γ c b) (hA : Ex X W Γ a mA viewA (fun z => z.elim) Xf) (hB : Ex X W Γ rest mB view Γf Xf) (hv : ∀ w e, viewA w = .ex e → view w = .ex e := by intro _ _ h; exact h) :
    Ex X W Γ (.If c a [] pos :: rest) (if b then mA else mB) view Γf Xf := ex_ifX (τ := Unit) (mc := R.val ()) (b := fun _ => b) (mA := fun _ => mA) (mB := fun _ => mB) hc (fun _ => hA) (fun _ => hB) hv
theorem ex_ifEP {c : Expr} {a : List Stmt} {b : Bool} {mA : R ε} {mB : R ω} (inj : ε → ω) (hc : EvTP X W Γ c b) (hA : Ex X W Γ a mA (fun e => (.ex e : Fl Empty ε)) (fun z => z.elim) Xf) (hB : Ex X W Γ rest mB view Γf Xf) (hi : ∀ e, view (inj e) = .ex e := by intros; rfl) :
    Ex X W Γ (.If c a [] pos :: rest) (if b then mA.bind (fun e => .val (inj e)) else mB) view Γf Xf := ex_ifE (τ := Unit) (mc := R.val ()) (b := fun _ => b) (mA := fun _ => mA) (mB := fun _ => mB) inj hc (fun _ => hA) (fun _ => hB) hi
theorem ex_if2P {c : Expr} {a b' : List Stmt} {b : Bool} {mA mB : R ω} (hc : EvTP X W Γ c b) (hA : Ex X W Γ a mA view Γf Xf) (hB : Ex X W Γ b' mB view Γf Xf) : Ex X W Γ [.If c a b' pos] (if b then mA else mB) view Γf Xf :=
  ex_if2 (τ := Unit) (mc := R.val ()) (b := fun _ => b) (mA := fun _ => mA) (mB := fun _ => mB) hc (fun _ => hA) (fun _ => hB)
theorem ex_ifSP {c : Expr} {a b' : List Stmt} {J : Type} {b : Bool} {mA mB : R J} {Γj : J → List Sl} {mR : J → R ω} (hc : EvTP X W Γ c b) (hA : Ex X W Γ a mA (fun j => (.nx j : Fl J ε)) Γj Xf) (hB : Ex X W Γ b' mB (fun j => (.nx j : Fl J ε)) Γj Xf) (hR : ∀ j, Ex X W (Γj j) rest (mR j) view Γf Xf) :
    Ex X W Γ (.If c a b' pos :: rest) ((if b then mA else mB).bind mR) view Γf Xf := ex_ifS (τ := Unit) (mc := R.val ()) (b := fun _ => b) (mA := fun _ => mA) (mB := fun _ => mB) hc (fun _ => hA) (fun _ => hB) hR
theorem ex_ifJP {c : Expr} {a b' : List Stmt} {J ωJ : Type} {b : Bool} {mA mB : R ωJ} {viewJ : ωJ → Fl J ε} {Γj : J → List Sl} {inj : ε → ω} {mR : J → R ω} (hc : EvTP X W Γ c b) (hA : Ex X W Γ a mA viewJ Γj Xf) (hB : Ex X W Γ b' mB viewJ Γj Xf) (hR : ∀ j, Ex X W (Γj j) rest (mR j) view Γf Xf) (hi : ∀ e, view (inj e) = .ex e := by intros; rfl) :
    Ex X W Γ (.If c a b' pos :: rest) ((if b then mA else mB).bind (contJ viewJ mR inj)) view Γf Xf := ex_ifJ (τ := Unit) (mc := R.val ()) (b := fun _ => b) (mA := fun _ => mA) (mB := fun _ => mB) hc (fun _ => hA) (fun _ => hB) hR hi
/-! loops over pure iterables -/
theorem ex_forSP (C : Cf X W sc N) {tg iter : Expr} {body : List Stmt} {α S : Type} {enc : α → PyData} {fr : Bool} {items : List α} {f : α → List Sl → List Sl} {s0 : S} {Γs : S → List Sl} (is : List Nat) {step : S → α → R S}
    {mR : S → R ω} (hi : EvIP X W Γ tg iter (items.map enc) fr) {ts : List Nat} (ht : Tgt X tg enc fr ts f) (h0 : Γs s0 = wipeG Γ is)
    (hb : ∀ s x, Ex X W (f x (Γs s)) body (step s x) (fun s => (.nx s : Fl S (Lx S Empty))) Γs (XfL Γs fun z => z.elim)) (hr : ∀ s, Ex X W (Γs s) rest (mR s) view Γf Xf) (hs : ∀ x, foldedSetIterable iter X.env x = pure x := by intro _; rfl) :
    Ex X W Γ (.For tg iter body [] pos :: rest) ((R.fold step items s0).bind mR) view Γf Xf :=
  ex_forS (ι := Unit) (mi := R.val ()) (items := fun _ => items) (s0 := fun _ => s0) (is := is) C hi ht (fun _ => h0) hb hr hs
theorem ex_forP (C : Cf X W sc N) {tg iter : Expr} {body : List Stmt} {α S ωb : Type} {enc : α → PyData} {fr : Bool} {items : List α} {f : α → List Sl → List Sl} {s0 : S} {Γs : S → List Sl} (is : List Nat) {step : S → α → R ωb}
    {εr : Type} {viewB : ωb → Fl S (Lx S εr)} {mR : S → R ω} {Xr : εr → Xo} {inj : εr → ω} {ke : εr → ε} (hi : EvIP X W Γ tg iter (items.map enc) fr) {ts : List Nat} (ht : Tgt X tg enc fr ts f) (h0 : Γs s0 = wipeG Γ is)
    (hb : ∀ s x, Ex X W (f x (Γs s)) body (step s x) viewB Γs (XfL Γs Xr)) (hr : ∀ s, Ex X W (Γs s) rest (mR s) view Γf Xf) (hj : ∀ e, view (inj e) = .ex (ke e) := by intros; rfl) (hk : ∀ e, Xf (ke e) = Xr e := by intros; rfl) (hX : ∀ e, (Xr e).isRt = true := by intros; rfl)
    (hs : ∀ x, foldedSetIterable iter X.env x = pure x := by intro _; rfl) :
    Ex X W Γ (.For tg iter body [] pos :: rest) ((loopV viewB step items s0).bind (contV mR inj)) view Γf Xf :=
  ex_for (ι := Unit) (mi := R.val ()) (items := fun _ => items) (s0 := fun _ => s0) (is := is) C hi ht (fun _ => h0) hb hr hj hk hX hs
/-- while with a pure test and no way out of its body -/
def R.whl {S : Type} (c : S → Bool) (step : S → R S) : Nat → S → R S
  | 0, _ => .bad
  | n + 1, s => if c s then (step s).bind fun s' => R.whl c step n s' else .val s
theorem loopW_whl {S ε : Type} (c : S → Bool) (step : S → R S) : ∀ (n : Nat) (s : S), loopW (ε := ε) (fun s => .nx s) (fun s => .val (c s)) step n s = (R.whl c step n s).bind fun s => .val (.nx s)
  | 0, s => rfl
  | n + 1, s => by
    unfold loopW R.whl
    show (if c s = true then _ else _) = _
    cases c s with
    | false => rfl
    | true =>
      show (step s).bind _ = R.bind (R.bind _ _) _
      rw [R.bind_assoc]
      congr 1
      funext s'
      exact loopW_whl c step n s'
theorem ex_whlP (C : Cf X W sc N) {test : Expr} {body : List Stmt} {S : Type} {s0 : S} {Γs : S → List Sl} (is : List Nat) {c : S → Bool} {step : S → R S} (fuel : Nat)
    {mR : S → R ω} (h0 : Γs s0 = wipeG Γ is) (hc : ∀ s, EvTP X W (Γs s) test (c s)) (hb : ∀ s, Ex X W (Γs s) body (step s) (fun s => (.nx s : Fl S (Lx S Empty))) Γs (XfL Γs fun z => z.elim)) (hr : ∀ s, Ex X W (Γs s) rest (mR s) view Γf Xf) :
    Ex X W Γ (.While test body [] pos :: rest) ((R.whl c step fuel s0).bind mR) view Γf Xf := by
  have h := ex_while (pos := pos) (εr := Empty) (Xr := fun z => z.elim) (inj := fun z => z.elim) (ke := fun z => z.elim) (is := is) C fuel h0 (c := fun s => R.val (c s)) (fun s => EvTP.to (hc s)) hb hr (fun e => e.elim) (fun e => e.elim) (fun e => e.elim) (Xf := Xf)
  rw [loopW_whl, R.bind_assoc] at h
  exact h
end
end PD


set_option Elab.async false
set_option linter.all false
set_option maxRecDepth 100000
set_option maxHeartbeats 4000000
set_option autoImplicit false
namespace PD
open PySem L2
section
variable {X : Cx} {W : WX} {sc : Scope} {N : List Str} {Γ : List Sl} {x : Str} {dvs : List V} {dds : List PyData} {τ ρ : Type} {ar a1 a2 : τ → List PyData} {c : τ → Cl} {m : τ → R ρ} {res : ρ → Rs} {c' : ρ → Cl} {e : Expr} {es : List Expr} {as as1 as2 : List AV} {p pos : Pos}
/-! ## calls with pure arguments -/
theorem Ev.re {e : Expr} {α β : Type} {mm : R α} {m' : R β} {av : α → AV} {Γ' : α → List Sl} (h : Ev X W Γ e mm av Γ') (g : β → α) (hm : mm = m'.bind fun r => .val (g r)) : Ev X W Γ e m' (fun r => av (g r)) (fun r => Γ' (g r)) := by
  subst hm
  refine pe_imp h fun σ H Q ⟨G, S, p⟩ => ⟨G, S, ?_⟩
  cases m' with
  | bad => exact p
  | exc x => exact p
  | val r => exact p
theorem ev_callP (C : Cf X W sc N) (hc : Clee X x dvs (spP X.K X.mg ar m res)) (hg : glB sc x = true) (ha : EvAP X W Γ (e :: es) as) (hdv : ∀ G H, DnA X.K G H dvs dds) (t : τ) {ds : List PyData} (h1 : ArD Γ as ds) (h1' : ds ++ dds = ar t) (enc : ρ → PyData) (h2 : ∀ r, res r = .d (enc r) := by intros; rfl)
    (hdb : (x == ("__debug__" : Str)) = false := by decide +kernel) (he : starEach (e :: es) X.env = (false, eval e X.env) :: starEach es X.env := by rfl) (hpl : (backTo pos (starEach es X.env)).any (·.1) = false := by rfl) :
    Ev X W Γ (.Call (.Name x p) (e :: es) [] pos) (m t) (fun r => .d true (enc r)) (fun _ => Γ) :=
  (ev_call (α := Unit) (γ := ρ) (p := p) (pos := pos) C hc hg ha hdv (fun _ => t) (fun _ => ⟨ds, h1, h1'⟩) (fun _ r => r) enc (fun _ => Γ) (fun _ r => h2 r) (fun _ _ => rfl) hdb he hpl).re (fun r => r) rfl
theorem evf_callP (C : Cf X W sc N) (hc : Clee X x dvs (spP X.K X.mg ar m res)) (hg : glB sc x = true) (ha : EvAP X W Γ (e :: es) as) (hdv : ∀ G H, DnA X.K G H dvs dds) (t : τ) {ds : List PyData} (h1 : ArD Γ as ds) (h1' : ds ++ dds = ar t) (enc : ρ → List PyData) (h2 : ∀ r, res r = .f (enc r) := by intros; rfl)
    (hdb : (x == ("__debug__" : Str)) = false := by decide +kernel) (he : starEach (e :: es) X.env = (false, eval e X.env) :: starEach es X.env := by rfl) (hpl : (backTo pos (starEach es X.env)).any (·.1) = false := by rfl) :
    EvF X W Γ (.Call (.Name x p) (e :: es) [] pos) (m t) enc (fun _ => Γ) :=
  (evf_call (α := Unit) (γ := ρ) (p := p) (pos := pos) C hc hg ha hdv (fun _ => t) (fun _ => ⟨ds, h1, h1'⟩) (fun _ r => r) enc (fun _ => Γ) (fun _ r => h2 r) (fun _ _ => rfl) hdb he hpl).re (fun r => r) rfl
theorem ev_callCP (C : Cf X W sc N) (hc : Clee X x dvs (spC X.K X.mg a1 c a2 m res c')) (hfl : ∀ t, m t ≠ .bad → (c t).fl = true) (hg : glB sc x = true) (i : Nat) (io : Bool) (ha : EvAP X W Γ (e :: es) (as1 ++ .s i :: as2)) (hdv : ∀ G H, DnA X.K G H dvs dds) (t : τ)
    (hi : Γ[i]? = some (if io then .io (c t) else .own (c t))) (h1 : ArC Γ i as1 (a1 t)) {ds : List PyData} (h2 : ArC Γ i as2 ds) (h2' : ds ++ dds = a2 t) (enc : ρ → PyData) (Γk : ρ → List Sl) (hne : ∀ t z, m t ≠ .exc z)
    (h3 : ∀ r, res r = .d (enc r) := by intros; rfl) (h4 : ∀ r, Γk r = Γ.set i (if io then .io (c' r) else .own (c' r)) := by intros; rfl)
    (hdb : (x == ("__debug__" : Str)) = false := by decide +kernel) (he : starEach (e :: es) X.env = (false, eval e X.env) :: starEach es X.env := by rfl) (hpl : (backTo pos (starEach es X.env)).any (·.1) = false := by rfl) :
    Ev X W Γ (.Call (.Name x p) (e :: es) [] pos) (m t) (fun r => .d true (enc r)) Γk :=
  (ev_callC (α := Unit) (γ := ρ) (p := p) (pos := pos) (as1 := fun _ => as1) (as2 := fun _ => as2) C hc hfl hg i io ha hdv (fun _ => t) (fun _ => hi) (fun _ => h1) (fun _ => ⟨ds, h2, h2'⟩) (fun _ r => r) enc Γk (fun _ r => h3 r) (fun _ r => h4 r) hdb he hpl hne).re (fun r => r) rfl
theorem evf_callCP (C : Cf X W sc N) (hc : Clee X x dvs (spC X.K X.mg a1 c a2 m res c')) (hfl : ∀ t, m t ≠ .bad → (c t).fl = true) (hg : glB sc x = true) (i : Nat) (io : Bool) (ha : EvAP X W Γ (e :: es) (as1 ++ .s i :: as2)) (hdv : ∀ G H, DnA X.K G H dvs dds) (t : τ)
    (hi : Γ[i]? = some (if io then .io (c t) else .own (c t))) (h1 : ArC Γ i as1 (a1 t)) {ds : List PyData} (h2 : ArC Γ i as2 ds) (h2' : ds ++ dds = a2 t) (enc : ρ → List PyData) (Γk : ρ → List Sl) (hne : ∀ t z, m t ≠ .exc z)
    (h3 : ∀ r, res r = .f (enc r) := by intros; rfl) (h4 : ∀ r, Γk r = Γ.set i (if io then .io (c' r) else .own (c' r)) := by intros; rfl)
    (hdb : (x == ("__debug__" : Str)) = false := by decide +kernel) (he : starEach (e :: es) X.env = (false, eval e X.env) :: starEach es X.env := by rfl) (hpl : (backTo pos (starEach es X.env)).any (·.1) = false := by rfl) :
    EvF X W Γ (.Call (.Name x p) (e :: es) [] pos) (m t) enc Γk :=
  (evf_callC (α := Unit) (γ := ρ) (p := p) (pos := pos) (as1 := fun _ => as1) (as2 := fun _ => as2) C hc hfl hg i io ha hdv (fun _ => t) (fun _ => hi) (fun _ => h1) (fun _ => ⟨ds, h2, h2'⟩) (fun _ r => r) enc Γk (fun _ r => h3 r) (fun _ r => h4 r) hdb he hpl hne).re (fun r => r) rfl
end
/-! ## the promise in a frame -/
section
variable {P : Program} {w : World} {K : PySem.W.Frag} {mg : Str → Option Value} {base : Heap} {k k' : Nat} {x : Str} {dvs : List V} {X : Cx} {W : WX} {scope : Scope} {N : List Str} {τ ρ : Type} {ar a1 a2 : τ → List PyData} {c : τ → Cl} {m : τ → R ρ} {res : ρ → Rs} {c' : ρ → Cl}
theorem Gv.cP (g : Gv P w K mg base k x dvs (spP K mg ar m res)) (h : Here X W P w K mg base scope N k') (hk : k ≤ k') : Clee X x dvs (spP X.K X.mg ar m res) := by
  rw [h.K, h.mg]
  exact g.clee h hk
theorem Gv.cC (g : Gv P w K mg base k x dvs (spC K mg a1 c a2 m res c')) (h : Here X W P w K mg base scope N k') (hk : k ≤ k') : Clee X x dvs (spC X.K X.mg a1 c a2 m res c') := by
  rw [h.K, h.mg]
  exact g.clee h hk
end
/-- never an exception -/
def NoX {α : Type} (m : R α) : Prop := ∀ z, m ≠ .exc z
theorem nox_val {α : Type} (a : α) : NoX (R.val a) := fun z h => nomatch h
theorem nox_bad {α : Type} : NoX (R.bad : R α) := fun z h => nomatch h
theorem nox_bind {α β : Type} {m : R α} {k : α → R β} (h : NoX m) (hk : ∀ a, NoX (k a)) : NoX (m.bind k) := by
  cases m with
  | val a => exact hk a
  | exc z => exact absurd rfl (h z)
  | bad => exact nox_bad
theorem nox_ofO {α : Type} (o : Option α) : NoX (R.ofO o) := by cases o <;> exact fun z h => nomatch h
theorem nox_req (c : Bool) : NoX (R.req c) := by cases c <;> exact fun z h => nomatch h
theorem nox_ite {α : Type} {c : Prop} [Decidable c] {a b : R α} (h : NoX a) (h2 : NoX b) : NoX (if c then a else b) := by split <;> assumption
theorem nox_fold {α S : Type} {step : S → α → R S} (h : ∀ s x, NoX (step s x)) : ∀ (xs : List α) (s : S), NoX (R.fold step xs s)
  | [], s => nox_val s
  | x :: xs, s => nox_bind (h s x) fun s' => nox_fold h xs s'
theorem nox_loopV {α S ε ω : Type} {view : ω → Fl S (Lx S ε)} {step : S → α → R ω} (h : ∀ s x, NoX (step s x)) : ∀ (xs : List α) (s : S), NoX (loopV view step xs s)
  | [], s => nox_val _
  | x :: xs, s => nox_bind (h s x) fun w => by
    split
    · exact nox_loopV h xs _
    · exact nox_loopV h xs _
    · exact nox_val _
    · exact nox_val _
theorem nox_contV {S ε ω : Type} {mR : S → R ω} {inj : ε → ω} (h : ∀ s, NoX (mR s)) (w : Fl S ε) : NoX (contV mR inj w) := by cases w with
  | nx s => exact h s
  | ex e => exact nox_val _
theorem nox_nox {α : Type} (m : R α) : NoX m.nox := by cases m <;> exact fun z h => nomatch h
theorem nox_compR {S α β τ ρ : Type} {tt : S → α → R τ} {bt : τ → Bool} {st : τ → S} {te : τ → α → R ρ} {se : ρ → S} {out : ρ → β} : ∀ (xs : List α) (s : S), NoX (compR tt bt st te se out xs s)
  | [], s => nox_val _
  | x :: xs, s => nox_bind (nox_nox _) fun t => nox_ite (nox_bind (nox_nox _) fun z => nox_bind (nox_compR xs _) fun r => nox_val _) (nox_compR xs _)
theorem nox_comp {α β : Type} {t : α → R Bool} {e : α → R β} : ∀ xs : List α, NoX (R.comp t e xs)
  | [] => nox_val _
  | x :: xs => nox_bind (nox_nox _) fun b => nox_ite (nox_bind (nox_nox _) fun y => nox_bind (nox_comp xs) fun ys => nox_val _) (nox_comp xs)
theorem nox_whl {S : Type} {c : S → Bool} {step : S → R S} (h : ∀ s, NoX (step s)) : ∀ (n : Nat) (s : S), NoX (R.whl c step n s)
  | 0, _ => nox_bad
  | n + 1, s => nox_ite (nox_bind (h s) fun s' => nox_whl h n s') (nox_val _)
theorem nox_contJ {J ωJ ε ω : Type} {viewJ : ωJ → Fl J ε} {mR : J → R ω} {inj : ε → ω} (h : ∀ j, NoX (mR j)) (w : ωJ) : NoX (contJ viewJ mR inj w) := by
  unfold contJ
  split
  · exact h _
  · exact nox_val _
end PD


set_option Elab.async false
set_option linter.all false
set_option maxRecDepth 100000
set_option maxHeartbeats 4000000
set_option autoImplicit false
namespace PD
open PySem L2
section
variable {X : Cx} {W : WX} {sc : Scope} {N : List Str} {Γ : List Sl} {e : Expr} {p pos : Pos}
theorem kitAny2 {K : PySem.W.Frag} {t a b : String} {x y : Bool} (h1 : kitB t a = some x) (h2 : kitB t b = some y) : PySem.W.kitAny K (.type t) [.type a, .type b] = some (x || y) :=
  kitAny_cons (b := x) (kit_ty h1) (fun hx => by subst hx; exact kitAny_cons (b := y) (kit_ty h2) (fun hy => by subst hy; rfl) (fun hy => by subst hy; rfl)) (fun hx => by subst hx; rfl)
/-- isinstance(x, (A, B)) -/
theorem evp_isi2 (C : Cf X W sc N) {a : AV} {d : PyData} {T U : Str} {n k : String} {z y : Bool} {p2 p3 p4 : Pos} {ek : Nat} (hm : X.mg "isinstance" = none) (hg : glB sc "isinstance" = true) (hmT : X.mg T = none) (hgT : glB sc T = true) (hv : bootBuiltins T = some (.type n)) (hmU : X.mg U = none) (hgU : glB sc U = true) (hvU : bootBuiltins U = some (.type k))
    (ha : EvP X W Γ e a) (hr : Rdb Γ a d) (hz : kitB (pyTy d) n = some z) (hy : kitB (pyTy d) k = some y)
    (hnT : T ≠ "__name__" := by decide +kernel) (hdT : (T == ("__debug__" : Str)) = false := by decide +kernel) (hnU : U ≠ "__name__" := by decide +kernel) (hdU : (U == ("__debug__" : Str)) = false := by decide +kernel)
    (hst : starEach [e, .Tuple [.Name T p2, .Name U p3] ek p4] X.env = (false, eval e X.env) :: starEach [.Tuple [.Name T p2, .Name U p3] ek p4] X.env := by rfl) :
    EvP X W Γ (.Call (.Name "isinstance" p) [e, .Tuple [.Name T p2, .Name U p3] ek p4] [] pos) (.d true (.bool (z || y))) := by
  have hT : PE X (.Name T p2) (tC (.ty n)) := pe_bltn (C.gl hgT) hmT hv rfl hnT hdT
  have hU : PE X (.Name U p3) (tC (.ty k)) := pe_bltn (C.gl hgU) hmU hvU rfl hnU hdU
  refine pe_imp (pe_callB call_isiT (C.gl hg) hm PyProof.Rows.boot_isinstance (pa_cons ha (pa_cons (pe_tup (pa_cons hT (pa_cons hU pa_nil rfl) rfl)) pa_nil rfl) hst) (by decide +kernel) (by decide +kernel) hst rfl) fun σ H Q ⟨G, S, q⟩ => ⟨G, S, fun G1 H1 e1 v S1 h1 => ?_⟩
  refine ⟨by show 2 ≤ sizeLine; decide, fun tp htp => ?_⟩
  obtain ⟨S2, e2⟩ := S1.grow (grow_new (o := .tup [.ty n, .ty k]) S1.w htp)
  exact ⟨v, tp, [.ty n, .ty k], .type (pyTy d), [.type n, .type k], z || y, rfl, upd_same, .cons (.ty n) (.cons (.ty k) .nil), dn_ty (hr.ok S2 (AVok.ext h1 e2)), kitAny2 hz hy, q _ _ (e1.tr e2) _ S2 (.bl _)⟩
/-! ## returns, pure -/
variable {ω φ ε : Type} {view : ω → Fl φ ε} {Γf : φ → List Sl} {Xf : ε → Xo} {rest : List Stmt}
theorem ex_retP {d : PyData} {k : ω} {ke : ε} (he : EvP X W Γ e (.d true d)) (io : List (Nat × Cl)) (hio : ioOk Γ io) (hv : view k = .ex ke := by rfl) (hx : Xf ke = .rt d io := by rfl) : Ex X W Γ [.Return (some e) pos] (.val k) view Γf Xf :=
  ex_ret (τ := Unit) (m := R.val ()) (enc := fun _ => d) (k := fun _ => k) (ke := fun _ => ke) he (fun _ => hv) (fun _ => io) (fun _ => hx) (fun _ => hio)
theorem ex_retFP {ds : List PyData} {k : ω} {ke : ε} (he : EvFP X W Γ e ds) (io : List (Nat × Cl)) (hio : ioOk Γ io) (hv : view k = .ex ke := by rfl) (hx : Xf ke = .rtF ds io := by rfl) : Ex X W Γ [.Return (some e) pos] (.val k) view Γf Xf :=
  ex_retF (τ := Unit) (m := R.val ()) (ds := fun _ => ds) (k := fun _ => k) (ke := fun _ => ke) he (fun _ => hv) (fun _ => io) (fun _ => hx) (fun _ => hio)
/-! ## methods, pure -/
theorem ex_appP {β : Type} {enc : β → PyData} {xs : List β} {y : β} {o : Expr} {apos cpos : Pos} {k : List β → R ω} (i : Nat) (io : Bool) (ho : EvP X W Γ o (.s i)) (h0 : Γ[i]? = some (mkS io (.lst (xs.map enc)))) (ha : EvP X W Γ e (.d true (enc y)))
    (hr : ∀ zs : List β, Ex X W (Γ.set i (mkS io (.lst (zs.map enc)))) rest (k zs) view Γf Xf) (hbase : attributeBase o "append" X.env (eval o X.env) = eval o X.env := by rfl) (hs : starEach [e] X.env = [(false, eval e X.env)] := by rfl) (hline : (apos.endLine == cpos.line) = true := by rfl) :
    Ex X W Γ (.Expr (.Call (.Attribute o "append" apos) [e] [] cpos) pos :: rest) ((R.req (ltS xs)).bind fun _ => (R.val (xs ++ [y])).bind k) view Γf Xf := by
  have h := ev_append (α := Unit) (ma := R.val ()) (Γ1 := fun _ => Γ) (xs := fun _ => xs) (y := fun _ => y) (γ := Unit) (Γk := fun _ => Γ.set i (mkS io (.lst ((xs ++ [y]).map enc)))) i io ho h0 ha (fun _ => h0) (fun _ => ()) (fun _ => rfl) hbase hs hline
  have q := ex_expr (pos := pos) (k := fun _ => (R.val (xs ++ [y])).bind k) h (fun _ => hr (xs ++ [y]))
  have e2 : (((R.val ()).bind fun r => (R.req (ltS ((fun _ => xs) r))).bind fun _ => R.val ((fun _ => ()) r)).bind fun _ => (R.val (xs ++ [y])).bind k) = ((R.req (ltS xs)).bind fun _ => (R.val (xs ++ [y])).bind k) := by
    show ((R.req (ltS xs)).bind fun _ => R.val ()).bind _ = _
    rw [R.bind_assoc]
    rfl
  rw [e2] at q
  exact q
theorem ex_insP {β : Type} {enc : β → PyData} {f1 : Bool} {xs : List β} {n : Int} {y : β} {o e2 : Expr} {apos cpos : Pos} {k : List β → R ω} (i : Nat) (io : Bool) (ho : EvP X W Γ o (.s i)) (h0 : Γ[i]? = some (mkS io (.lst (xs.map enc)))) (ha : EvP X W Γ e (.d f1 (.int n))) (hb : EvP X W Γ e2 (.d true (enc y)))
    (hr : ∀ zs : List β, Ex X W (Γ.set i (mkS io (.lst (zs.map enc)))) rest (k zs) view Γf Xf) (hbase : attributeBase o "insert" X.env (eval o X.env) = eval o X.env := by rfl) (hs : starEach [e, e2] X.env = [(false, eval e X.env), (false, eval e2 X.env)] := by rfl) (hs2 : starEach [e2] X.env = [(false, eval e2 X.env)] := by rfl) (hline : (apos.endLine == cpos.line) = true := by rfl) :
    Ex X W Γ (.Expr (.Call (.Attribute o "insert" apos) [e, e2] [] cpos) pos :: rest) ((R.req (cIns xs n)).bind fun _ => (R.val (insI xs n y)).bind k) view Γf Xf := by
  have h := ev_insert (α := Unit) (ma := R.val ()) (Γ1 := fun _ => Γ) (xs := fun _ => xs) (n := fun _ => n) (y := fun _ => y) (γ := Unit) (Γk := fun _ => Γ.set i (mkS io (.lst ((insI xs n y).map enc)))) i io ho h0 (evap_cons ha (evap_cons hb eva_nil (by rw [hs2]; rfl)) (by rw [hs, hs2])) (fun _ => h0) (fun _ => ()) (fun _ => rfl) hbase hs hs2 hline
  have q := ex_expr (pos := pos) (k := fun _ => (R.val (insI xs n y)).bind k) h (fun _ => hr (insI xs n y))
  have e2 : (((R.val ()).bind fun r => (R.req (cIns ((fun _ => xs) r) ((fun _ => n) r))).bind fun _ => R.val ((fun _ => ()) r)).bind fun _ => (R.val (insI xs n y)).bind k) = ((R.req (cIns xs n)).bind fun _ => (R.val (insI xs n y)).bind k) := by
    show ((R.req (cIns xs n)).bind fun _ => R.val ()).bind _ = _
    rw [R.bind_assoc]
    rfl
  rw [e2] at q
  exact q
/-! ## break, continue, pass -/
theorem ex_break {k : ω} {ke : ε} {Γ' : List Sl} (hv : view k = .ex ke) (is : List Nat) (hx : Xf ke = .bk (wipeG Γ is) := by rfl) : Ex X W Γ (.Break pos :: rest) (.val k) view Γf Xf := by
  refine pss_imp (pss_cons ps_break (pss_any (α := Empty) (t := fun z => z.elim) fun z => z.elim)) fun D σ H ⟨G, S, q⟩ => ?_
  have z : Fin X.K G H D Γf Xf (view k) := q σ G H (Ext.rf S.w)
  rw [hv] at z
  have z : FinX _ _ _ _ _ := z
  rw [hx] at z
  exact z σ (S.wipe is)
theorem ex_cont {k : ω} {ke : ε} {Γ' : List Sl} (hv : view k = .ex ke) (is : List Nat) (hx : Xf ke = .ct (wipeG Γ is) := by rfl) : Ex X W Γ (.Continue pos :: rest) (.val k) view Γf Xf := by
  refine pss_imp (pss_cons ps_continue (pss_any (α := Empty) (t := fun z => z.elim) fun z => z.elim)) fun D σ H ⟨G, S, q⟩ => ?_
  have z : Fin X.K G H D Γf Xf (view k) := q σ G H (Ext.rf S.w)
  rw [hv] at z
  have z : FinX _ _ _ _ _ := z
  rw [hx] at z
  exact z σ (S.wipe is)
theorem ex_pass {m : R ω} (h : Ex X W Γ rest m view Γf Xf) : Ex X W Γ (.Pass pos :: rest) m view Γf Xf := pss_imp (pss_cons ps_pass h) fun D σ H q => q
theorem ite_enc {α : Type} (enc : α → PyData) (c : Bool) (x y : α) : (if c then enc x else enc y) = enc (if c then x else y) := by cases c <;> rfl
end
end PD


set_option Elab.async false
set_option linter.all false
set_option maxRecDepth 100000
set_option maxHeartbeats 4000000
set_option autoImplicit false
namespace PD
open PySem L2
/-! ## a new list handed over to be changed -/
section
variable {X : Cx} {W : WX} {sc : Scope} {N : List Str} {Γ : List Sl} {x : Str} {dvs : List V} {dds : List PyData} {τ ρ α γ : Type} {a2 : τ → List PyData} {c : τ → Cl} {m : τ → R ρ} {res : ρ → Rs} {c' : ρ → Cl} {e : Expr} {es : List Expr} {ma : R α} {ds : α → List PyData} {as : α → List AV} {Γ1 : α → List Sl} {p pos : Pos}
theorem callN_core (hfl : ∀ t, m t ≠ .bad → (c t).fl = true) (tt : α → τ) (hc : ∀ r, c (tt r) = .lst (ds r)) (h2 : ∀ r, ∃ d2, ArD (Γ1 r) (as r) d2 ∧ d2 ++ dds = a2 (tt r) ∧ ∀ i, AV.s i ∉ as r) (hdv : ∀ G H, DnA X.K G H dvs dds)
    {r : α} {G1 : Gh} {H1 : Hp} {σ : St} {q : Addr} {vs : List V} {Q : VK} {E : XK} (S1 : Sta X.K G1 H1 σ (Γ1 r)) (hq : H1 q = none) (hd : DnA X.K (rg G1 true) H1 vs (ds r)) {G2 : Gh} {H2 : Hp} {ws : List V} (e2 : Ext ⟨G1.H0, G1.P, G1.I, G1.N, upd G1.E q (.lst vs)⟩ (upd H1 q (.lst vs)) G2 H2) (S2 : Sta X.K G2 H2 σ (Γ1 r)) (av : AVs X.K G2 H2 σ ws (as r))
    (post : ∀ z, m (tt r) = .val z → ∀ G' H', Ext G1 H1 G' H' → Sta X.K G' H' σ (Γ1 r) → match res z with
      | .d d => ∀ v, Dn X.K (rg G' true) H' v d → Q v H'
      | .f ds => ∀ q vs, H' q = none → DnA X.K (rg G' true) H' vs ds → Q (.ref q) (upd H' q (.lst vs)))
    (hbad : m (tt r) ≠ .bad) (hexc : ∀ z, m (tt r) ≠ .exc z) : spC X.K X.mg (fun _ => []) c a2 m res c' ((.ref q :: ws) ++ dvs) H2 Q E := by
  obtain ⟨d2, q4, q5, q6⟩ := h2 r
  have hE : G2.E q = some (.lst vs) := by rw [e2.e]; exact upd_same
  obtain ⟨w1, w2, w3, w4⟩ := S2.w.ex q _ hE
  have rgq : ∀ fr a o, rg G2 fr a o → a ∉ [q] := fun fr a o h z => by
    have z : a = q := by simpa using z
    subst z
    cases fr with
    | true => have h : G2.N a = some o := h; rw [w2] at h; cases h
    | false =>
      rcases h with h | ⟨h, _⟩
      · rw [w2] at h; cases h
      · rw [w3] at h; cases h
  have dn2 : DnA X.K (fun a o => H2 a = some o ∧ a ∉ [q]) H2 ws d2 := by
    have key : ∀ {as : List AV} {ds : List PyData} {ws : List V}, (∀ i, AV.s i ∉ as) → ArD (Γ1 r) as ds → AVs X.K G2 H2 σ ws as → DnA X.K (fun a o => H2 a = some o ∧ a ∉ [q]) H2 ws ds := by
      intro as
      induction as with
      | nil => intro ds ws _ h1 h2; cases h1; cases h2; exact .nil
      | cons a as ih =>
        intro ds ws hn h1 h2
        cases h2 with
        | cons hv hr =>
          cases h1 with
          | d h1 =>
            rename_i fr d _
            exact .cons (Dn.mono (fun a o z => ⟨S2.w.rgl fr a o z, rgq fr a o z⟩) (TupLe.rf _) hv) (ih (fun i z => hn i (List.mem_cons_of_mem _ z)) h1 hr)
          | o hg h1 => exact absurd List.mem_cons_self (hn _)
          | i hg h1 => exact absurd List.mem_cons_self (hn _)
    exact key q6 q4 av
  have okc : (c (tt r)).ok X.K (RgN G2) H2 (.ref q) [q] := by
    rw [hc r]
    refine ⟨q, vs, rfl, rfl, w1, ?_⟩
    have d1 : DnA X.K (rg G2 true) H2 vs (ds r) := (hd.mono (fun a o z => e2.n a o z) ((tup_upd hq).tr e2.t))
    exact d1
  refine ⟨tt r, [], .ref q, ws ++ dvs, [q], by simp, Cl.fl_ok okc (hfl _ hbad), fun a ha => by
    have z : a = q := by simpa using ha
    subst z
    rw [w1]; simp, .nil, by rw [← q5]; exact dn2.append (hdv _ _), ?_⟩
  cases hm : m (tt r) with
  | bad => exact hbad hm
  | exc z => exact hexc z hm
  | val z =>
    intro H' N' fp' k1 k2 t n ok f
    have hE0 : G1.E q = none := by
      cases h0 : G1.E q with
      | none => rfl
      | some u => have := (S1.w.ex q u h0).1; rw [hq] at this; cases this
    obtain ⟨S3, g3, t3⟩ := S2.unpin (E0 := G1.E) e2.e hE0 (fun xs z => nomatch z) (fun _ _ z => nomatch z)
    have sm : Same (PD.del H2 q) H' := fun a o ha => by
      by_cases z : a = q
      · subst z; rw [del_same] at ha; cases ha
      · rw [del_ne z] at ha; exact k1 a o ha (by simpa using z)
    have nn : NewIn N' (PD.del H2 q) H' := fun a o ha => by
      obtain ⟨y1, y2⟩ := n a o ha
      refine ⟨y1, ?_⟩
      by_cases z : a = q
      · subst z; exact del_same
      · rw [del_ne z]; exact y2
    obtain ⟨G', S', e', l⟩ := call_end S3 sm nn
    have eF : Ext G1 H1 G' H' := ⟨e'.h0.trans (e2.h0), e'.p.trans e2.p, e'.i.trans e2.i, e'.e, fun a o h => e'.n a o (e2.n a o h), ((tup_upd hq).tr e2.t).tr (t3.tr e'.t), e'.w⟩
    have P := post z hm G' H' eF S'
    cases hrs : res z with
    | d d => rw [hrs] at P; exact fun v hv => P v (hv.mono l (TupLe.rf _))
    | f ds => rw [hrs] at P; exact fun q ws hq hd => P q ws hq (hd.mono l (TupLe.rf _))
theorem ev_callN (C : Cf X W sc N) (hcl : Clee X x dvs (spC X.K X.mg (fun _ => []) c a2 m res c')) (hfl : ∀ t, m t ≠ .bad → (c t).fl = true) (hg : glB sc x = true) (he : EvF X W Γ e ma ds Γ1) (hes : ∀ r, EvAP X W (Γ1 r) es (as r)) (hdv : ∀ G H, DnA X.K G H dvs dds) (tt : α → τ) (hc : ∀ r, c (tt r) = .lst (ds r))
    (h2 : ∀ r, ∃ d2, ArD (Γ1 r) (as r) d2 ∧ d2 ++ dds = a2 (tt r) ∧ ∀ i, AV.s i ∉ as r) (kk : α → ρ → γ) (enc : γ → PyData) (Γk : γ → List Sl) (hne : ∀ t z, m t ≠ .exc z) (h3 : ∀ a r, res r = .d (enc (kk a r)) := by intros; rfl) (h4 : ∀ a r, Γk (kk a r) = Γ1 a := by intros; rfl)
    (hdb : (x == ("__debug__" : Str)) = false := by decide +kernel) (hst : starEach (e :: es) X.env = (false, eval e X.env) :: starEach es X.env := by rfl) (hpl : (backTo pos (starEach es X.env)).any (·.1) = false := by rfl) :
    Ev X W Γ (.Call (.Name x p) (e :: es) [] pos) (ma.bind fun a => (m (tt a)).bind fun r => .val (kk a r)) (fun z => .d true (enc z)) Γk := by
  obtain ⟨k, f, fd, ps, dss, F, hr, hm, hk, hb, hd⟩ := hcl
  refine pe_imp (pe_callSD (E := fun σ cls d H => W cls d σ H) F hr (C.gl hg) hm hk hb hd (fun σ => passAt C.tk σ) (pa_cons he (pa_any hes) hst) hdb hst hpl) fun σ H Q ⟨G, S, p⟩ => ?_
  refine ⟨G, S, (Pst.bind p).imp fun r G1 H1 e1 p1 q vs S1 hq hd1 => ?_⟩
  obtain ⟨Sp, tp⟩ := S1.pin (o := .lst vs) hq
  refine ⟨r, _, Sp, fun G2 H2 e2 ws S2 av => ?_⟩
  refine callN_core hfl tt hc h2 hdv S1 hq hd1 e2 S2 av (fun z hz G' H' e' S' => ?_) (fun hb => by rw [hb] at p1; exact p1) (hne _)
  rw [hz] at p1
  rw [h3 r z]
  exact fun v hv => p1 G' H' e' v (by rw [h4]; exact S') hv
theorem evf_callN (C : Cf X W sc N) (hcl : Clee X x dvs (spC X.K X.mg (fun _ => []) c a2 m res c')) (hfl : ∀ t, m t ≠ .bad → (c t).fl = true) (hg : glB sc x = true) (he : EvF X W Γ e ma ds Γ1) (hes : ∀ r, EvAP X W (Γ1 r) es (as r)) (hdv : ∀ G H, DnA X.K G H dvs dds) (tt : α → τ) (hc : ∀ r, c (tt r) = .lst (ds r))
    (h2 : ∀ r, ∃ d2, ArD (Γ1 r) (as r) d2 ∧ d2 ++ dds = a2 (tt r) ∧ ∀ i, AV.s i ∉ as r) (kk : α → ρ → γ) (enc : γ → List PyData) (Γk : γ → List Sl) (hne : ∀ t z, m t ≠ .exc z) (h3 : ∀ a r, res r = .f (enc (kk a r)) := by intros; rfl) (h4 : ∀ a r, Γk (kk a r) = Γ1 a := by intros; rfl)
    (hdb : (x == ("__debug__" : Str)) = false := by decide +kernel) (hst : starEach (e :: es) X.env = (false, eval e X.env) :: starEach es X.env := by rfl) (hpl : (backTo pos (starEach es X.env)).any (·.1) = false := by rfl) :
    EvF X W Γ (.Call (.Name x p) (e :: es) [] pos) (ma.bind fun a => (m (tt a)).bind fun r => .val (kk a r)) enc Γk := by
  obtain ⟨k, f, fd, ps, dss, F, hr, hm, hk, hb, hd⟩ := hcl
  refine pe_imp (pe_callSD (E := fun σ cls d H => W cls d σ H) F hr (C.gl hg) hm hk hb hd (fun σ => passAt C.tk σ) (pa_cons he (pa_any hes) hst) hdb hst hpl) fun σ H Q ⟨G, S, p⟩ => ?_
  refine ⟨G, S, (Pst.bind p).imp fun r G1 H1 e1 p1 q vs S1 hq hd1 => ?_⟩
  obtain ⟨Sp, tp⟩ := S1.pin (o := .lst vs) hq
  refine ⟨r, _, Sp, fun G2 H2 e2 ws S2 av => ?_⟩
  refine callN_core hfl tt hc h2 hdv S1 hq hd1 e2 S2 av (fun z hz G' H' e' S' => ?_) (fun hb => by rw [hb] at p1; exact p1) (hne _)
  rw [hz] at p1
  rw [h3 r z]
  exact fun q vs hq hd => p1 G' H' e' q vs (by rw [h4]; exact S') hq hd
end
theorem un1 {Γ0 : List Sl} {i : Nat} (h : Γ0[i]? = some .un) : ∀ j, j ∈ [i] → j < Γ0.length → Γ0[j]? = some .un := fun j hj _ => by
  have z : j = i := by simpa using hj
  rw [z]; exact h
theorem un2 {Γ0 : List Sl} {i k : Nat} (h : Γ0[i]? = some .un) (h2 : Γ0[k]? = some .un) : ∀ j, j ∈ [i, k] → j < Γ0.length → Γ0[j]? = some .un := fun j hj _ => by
  rcases (show j = i ∨ j = k by simpa using hj) with z | z <;> rw [z] <;> assumption
theorem un3 {Γ0 : List Sl} {i k l : Nat} (h : Γ0[i]? = some .un) (h2 : Γ0[k]? = some .un) (h3 : Γ0[l]? = some .un) : ∀ j, j ∈ [i, k, l] → j < Γ0.length → Γ0[j]? = some .un := fun j hj _ => by
  rcases (show j = i ∨ j = k ∨ j = l by simpa using hj) with z | z | z <;> rw [z] <;> assumption
theorem augI {X : Cx} {f : Value → Value → Sem Value} {g : Int → Int → V} (h : OpR X f (rI0 g)) : OpR X f (rI (fun _ _ => True) g) := fun pins s σ H x y v u Q I r1 r2 q => h pins s σ H x y v u Q I r1 r2 (by
  obtain ⟨i, j, a, b, _, c⟩ := q
  exact ⟨i, j, a, b, c⟩)
theorem noS {as : List AV} (h : as.all (fun a => match a with | .s _ => false | _ => true) = true) (i : Nat) : AV.s i ∉ as := fun z => by
  have := List.all_eq_true.mp h _ z
  cases this
end PD


set_option Elab.async false
set_option linter.all false
set_option maxRecDepth 100000
set_option maxHeartbeats 4000000
set_option autoImplicit false
namespace PD
open PySem L2
/-! ## a comparison as a test -/
theorem cmp_test {M : Model} {A : Around} {E : Value → Shared → Prop} {env : Env} {s : Shared} {l r : Expr} {op : CmpOp} {pos : Pos} {whole : Sem Value} {Q : Bool → Shared → Prop} (h : wpAny M A (eval (.Compare l [op] [r] pos) env) (fun c s' => wpAny M A (truthy c) Q E s') E s) (hm : behindInMarks op r = false) :
    wpAny M A (isTrue (.Compare l [op] [r] pos) env whole) Q E s := fun Γ p hΓ => by
  have q := h Γ p hΓ
  simp only [eval_Compare1, markedBehindIn_of_false hm, Sem.wp_bind', Sem.wp_holding, Sem.wp_cmd_standAt, Sem.wp_operate] at q
  simp only [isTrue_Compare1, markedBehindIn_of_false hm, Sem.wp_bind', Sem.wp_holding, Sem.wp_cmd_standAt, Sem.wp_operate]
  exact Sem.wp_mono M Γ _ (fun a p1 s1 h1 => Sem.wp_mono M Γ _ (fun b p2 s2 h2 => Sem.wp_mono M Γ _ (fun c p3 s3 h3 => h3 Γ p3 hΓ) (fun _ _ _ z => z) _ _ h2) (fun _ _ _ z => z) _ _ h1) (fun _ _ _ z => z) _ _ q
theorem pt_cmpV {X : Cx} {a b : Expr} {op : CmpOp} {pos : Pos} {t : TE} (h : PE X (.Compare a [op] [b] pos) t) (hm : behindInMarks op b = false) : PT X (.Compare a [op] [b] pos) (tB t) := by
  refine ⟨fun pins s σ H Q I hw => cmp_test (thn (h.run pins s σ H _ I hw) fun v s1 ⟨x, H1, I1, r1, q1⟩ => ?_) hm⟩
  obtain ⟨d, rfl, q⟩ := q1
  cases r1
  exact wpAny_truthy_bool ⟨H1, I1, q⟩
section
variable {X : Cx} {W : WX} {Γ : List Sl} {a b : Expr} {op : CmpOp} {pos : Pos}
theorem EvP.tstC {fr : Bool} {z : Bool} (h : EvP X W Γ (.Compare a [op] [b] pos) (.d fr (.bool z))) (hm : behindInMarks op b = false := by first | exact nobehind _ (by decide) (by decide) | rfl) : EvTP X W Γ (.Compare a [op] [b] pos) z :=
  pt_imp (pt_cmpV h hm) fun σ H Q ⟨G, S, p⟩ => ⟨G, S, Pst.imp p fun r G' H' _ k v S' a => ⟨z, dn_bool a, k S'⟩⟩
theorem Ev.tstC {τ : Type} {m : R τ} {fr : Bool} {z : τ → Bool} {Γ1 : τ → List Sl} (h : Ev X W Γ (.Compare a [op] [b] pos) m (fun r => .d fr (.bool (z r))) Γ1) (hm : behindInMarks op b = false := by first | exact nobehind _ (by decide) (by decide) | rfl) : EvT X W Γ (.Compare a [op] [b] pos) m z Γ1 :=
  pt_imp (pt_cmpV h hm) fun σ H Q ⟨G, S, p⟩ => ⟨G, S, Pst.imp p fun r G' H' _ k v S' a => ⟨z r, dn_bool a, k S'⟩⟩
end
end PD


set_option Elab.async false
set_option linter.all false
set_option maxRecDepth 100000
set_option maxHeartbeats 4000000
set_option autoImplicit false
namespace PD
open PySem L2
/-! ## what a text does, as a function of the slots -/
abbrev DF := List Sl → R (AV × List Sl)
abbrev DA := List Sl → R (List AV × List Sl)
abbrev DT := List Sl → R (Bool × List Sl)
abbrev DN := List Sl → R (List PyData × List Sl)
section
variable (X : Cx) (W : WX)
def CE (e : Expr) (f : DF) : Prop := ∀ Γ, Ev X W Γ e (f Γ) Prod.fst Prod.snd
def CT (e : Expr) (f : DT) : Prop := ∀ Γ, EvT X W Γ e (f Γ) Prod.fst Prod.snd
def CW (e : Expr) (f : DT) : Prop := ∀ Γ, EvWM X W Γ e (f Γ) Prod.fst Prod.snd
def CN (e : Expr) (f : DN) : Prop := ∀ Γ, EvF X W Γ e (f Γ) Prod.fst Prod.snd
def CA (es : List Expr) (f : DA) : Prop := ∀ Γ, EvA X W Γ es (f Γ) Prod.fst Prod.snd
/-- what is wanted of an answer -/
def Pk (G : Gh) (H : Hp) (σ : St) (m : R (AV × List Sl)) (Q : VK) : Prop := Pst X W G H σ m fun y G' H' => ∀ w, Sta X.K G' H' σ y.2 → AVok X.K G' H' σ w y.1 → Q w H'
end
section
variable {X : Cx} {W : WX} {sc : Scope} {N : List Str} {a b c e : Expr} {pos : Pos} {f g : DF}
theorem Pk.v {G : Gh} {H : Hp} {σ : St} {y : AV} {Γ : List Sl} {Q : VK} (h : Pk X W G H σ (.val (y, Γ)) Q) (S : Sta X.K G H σ Γ) {w : V} (hw : AVok X.K G H σ w y) : Q w H := h G H (Ext.rf S.w) w S hw
theorem Pk.v' {G G' : Gh} {H H' : Hp} {σ : St} {y : AV} {Γ : List Sl} {Q : VK} (h : Pk X W G H σ (.val (y, Γ)) Q) (e : Ext G H G' H') (S : Sta X.K G' H' σ Γ) {w : V} (hw : AVok X.K G' H' σ w y) : Q w H' := h G' H' e w S hw
theorem ev_bad {τ : Type} {Γ : List Sl} {av : τ → AV} {Γ' : τ → List Sl} (h : PE X e (fun _ _ _ => False) := ⟨fun _ _ _ _ _ _ z => z.elim⟩) : Ev X W Γ e (R.bad : R τ) av Γ' := pe_imp h fun σ H Q ⟨G, S, p⟩ => p
theorem evf_bad {τ : Type} {Γ : List Sl} {av : τ → List PyData} {Γ' : τ → List Sl} (h : PE X e (fun _ _ _ => False) := ⟨fun _ _ _ _ _ _ z => z.elim⟩) : EvF X W Γ e (R.bad : R τ) av Γ' := pe_imp h fun σ H Q ⟨G, S, p⟩ => p
theorem evt_bad {τ : Type} {Γ : List Sl} {av : τ → Bool} {Γ' : τ → List Sl} (h : PT X e (fun _ _ _ => False) := ⟨fun _ _ _ _ _ _ z => z.elim⟩) : EvT X W Γ e (R.bad : R τ) av Γ' := pt_imp h fun σ H Q ⟨G, S, p⟩ => p
/-- names -/
def dVar (i : Nat) : DF := fun Γ => match Γ[i]? with
  | some (.dat fr d) => .val (.d fr d, Γ)
  | some (.own _) => .val (.s i, Γ)
  | some (.io _) => .val (.s i, Γ)
  | _ => .bad
theorem ce_var (C : Cf X W sc N) (i : Nat) {x : Str} (hN : N[i]? = some x) (hv : visB sc x = true)
    (hd : (x == ("__debug__" : Str)) = false := by decide +kernel) (hcd : (x == ("__classdict__" : Str)) = false := by decide +kernel) : CE X W (.Name x pos) (dVar i) := fun Γ => by
  unfold dVar
  split
  · exact evp_var C ‹_› hN hv hd hcd
  · exact evp_slot C (.inl ‹_›) hN hv hd hcd
  · exact evp_slot C (.inr ‹_›) hN hv hd hcd
  · exact ev_bad
def dC (d : PyData) : DF := fun Γ => .val (.d true d, Γ)
theorem ce_int {i : Int} {j : Nat} : CE X W (.Constant (.int i) j pos) (dC (.int i)) := fun Γ => evp_int (W := W)
theorem ce_bool {i : Bool} {j : Nat} : CE X W (.Constant (.bool i) j pos) (dC (.bool i)) := fun Γ => evp_bool (W := W)
theorem ce_none {j : Nat} : CE X W (.Constant .none j pos) (dC .none) := fun Γ => evp_none (W := W)
theorem ce_str {x : Str} {j : Nat} : CE X W (.Constant (.str x) j pos) (dC (.str x)) := fun Γ => evp_str (W := W)
theorem ce_glob (C : Cf X W sc N) {x : Str} {v : V} {u : Value} {d : PyData} (hg : glB sc x = true) (hm : X.mg x = some u) (r : RelV v u) (hd : ∀ G H, Dn X.K G H v d) (hdb : (x == ("__debug__" : Str)) = false := by decide +kernel) : CE X W (.Name x pos) (dC d) := fun Γ => evp_glob C hg hm r hd hdb
/-! two operands -/
theorem ce_op2 {op : Operator} {r : R2} (k : AV → AV → List Sl → R (AV × List Sl)) (ho : OpR X (binaryOp op) r) (ha : CE X W a f) (hb : CE X W b g)
    (hk : ∀ x y Γ2 G H σ u v Q, Sta X.K G H σ Γ2 → AVok X.K G H σ u x → AVok X.K G H σ v y → Pk X W G H σ (k x y Γ2) Q → r u v H Q) : CE X W (.BinOp a op b pos) (fun Γ => (f Γ).bind fun x => (g x.2).bind fun y => k x.1 y.1 y.2) := fun Γ =>
  pe_imp (pe_op ho (ha Γ) (pe_any fun x : AV × List Sl => hb x.2)) fun σ H Q h => bin_rd (X := X) (W := W) (ava := Prod.fst) (Γa := Prod.snd) (avb := fun _ (y : AV × List Sl) => y.1) (Γb := fun _ (y : AV × List Sl) => y.2) (avk := Prod.fst) (Γk := Prod.snd) (k := fun (x : AV × List Sl) (y : AV × List Sl) => k x.1 y.1 y.2) (fun x y G H σ u v Q S hu hv p => hk x.1 y.1 y.2 G H σ u v Q S hu hv p) h
def dI (k : Int → Int → R Int) (f g : DF) : DF := fun Γ => (f Γ).bind fun x => (g x.2).bind fun y => match x.1, y.1 with
  | .d _ (.int i), .d _ (.int j) => (k i j).bind fun n => .val (.d true (.int n), y.2)
  | _, _ => .bad
theorem ce_ii {op : Operator} {h : Int → Int → Int} {P : Int → Int → Prop} {k : Int → Int → R Int} (hk : ∀ i j, k i j = .bad ∨ (P i j ∧ k i j = .val (h i j))) (ho : OpR X (binaryOp op) (rI P fun i j => .int (h i j))) (ha : CE X W a f) (hb : CE X W b g) : CE X W (.BinOp a op b pos) (dI k f g) := by
  refine ce_op2 (fun x y Γ2 => match x, y with
    | .d _ (.int i), .d _ (.int j) => (k i j).bind fun n => .val (.d true (.int n), Γ2)
    | _, _ => .bad) ho ha hb fun x y Γ2 G H σ u v Q S hu hv p => ?_
  split at p
  · rename_i i _ j
    rcases hk i j with e | ⟨hP, e⟩
    · rw [e] at p; exact p.elim
    · rw [e] at p
      exact ⟨i, j, dn_int hu, dn_int hv, hP, Pk.v p S (.int _)⟩
  · exact p.elim
theorem opI_of {F : Value → Value → Sem Value} {h : Int → Int → V} (ho : OpR X F (rI0 h)) : OpR X F (rI (fun _ _ => True) h) := fun pins s σ H x y v u Q I rx ry ⟨i, j, e1, e2, _, q⟩ => ho pins s σ H x y v u Q I rx ry ⟨i, j, e1, e2, q⟩
theorem opR_or {F : Value → Value → Sem Value} {r1 r2 : R2} (h1 : OpR X F r1) (h2 : OpR X F r2) : OpR X F (fun u v H Q => r1 u v H Q ∨ r2 u v H Q) := fun pins s σ H x y v u Q I rx ry z => z.elim (h1 pins s σ H x y v u Q I rx ry) (h2 pins s σ H x y v u Q I rx ry)
def gq {α : Type} (c : Bool) (a : α) : R α := (R.req c).bind fun _ => .val a
theorem gq_cases {α : Type} (c : Bool) (a : α) : gq c a = .bad ∨ (c = true ∧ gq c a = .val a) := by
  cases c
  · exact .inl rfl
  · exact .inr ⟨rfl, rfl⟩
def cMulX (i j : Int) : Bool := decide (i.natAbs < 2 ^ 64) || decide (j.natAbs < 2 ^ 64) || cMul i j
theorem op_mulG : OpR X (binaryOp .Mult) (rI (fun i j => cMulX i j = true) fun i j => .int (i * j)) := fun pins s σ H x y v u Q I rx ry ⟨i, j, e1, e2, c, q⟩ => by
  have c : cMulX i j = true := c
  unfold cMulX at c
  rw [Bool.or_eq_true, Bool.or_eq_true] at c
  rcases c with (c | c) | c
  · have c := of_decide_eq_true c
    exact op_mul pins s σ H x y v u Q I rx ry ⟨i, j, e1, e2, .inl (by omega), q⟩
  · have c := of_decide_eq_true c
    exact op_mul pins s σ H x y v u Q I rx ry ⟨i, j, e1, e2, .inr (by omega), q⟩
  · exact op_mulW pins s σ H x y v u Q I rx ry ⟨i, j, e1, e2, cMul_ok i j c, q⟩
abbrev kSub (i j : Int) : R Int := .val (i - j)
abbrev kAnd (i j : Int) : R Int := .val (Builtin.bitAnd i j)
abbrev kOr (i j : Int) : R Int := .val (Builtin.bitOr i j)
abbrev kMul (i j : Int) : R Int := gq (cMulX i j) (i * j)
abbrev kDiv (i j : Int) : R Int := gq (cDiv i j) (i / j)
abbrev kMod (i j : Int) : R Int := gq (cMod i j) (i % j)
abbrev kPow (i j : Int) : R Int := gq (cPow i j) (i ^ j.toNat)
abbrev kShl (i j : Int) : R Int := gq (cShl i j) (i * 2 ^ j.toNat)
abbrev kShr (i j : Int) : R Int := gq (cShr i j) (i / 2 ^ j.toNat)
theorem ce_sub (ha : CE X W a f) (hb : CE X W b g) : CE X W (.BinOp a .Sub b pos) (dI kSub f g) := ce_ii (fun i j => .inr ⟨trivial, rfl⟩) (opI_of op_sub) ha hb
theorem ce_band (ha : CE X W a f) (hb : CE X W b g) : CE X W (.BinOp a .BitAnd b pos) (dI kAnd f g) := ce_ii (fun i j => .inr ⟨trivial, rfl⟩) (opI_of op_and) ha hb
theorem ce_bor (ha : CE X W a f) (hb : CE X W b g) : CE X W (.BinOp a .BitOr b pos) (dI kOr f g) := ce_ii (fun i j => .inr ⟨trivial, rfl⟩) (opI_of op_or) ha hb
theorem ce_mul (ha : CE X W a f) (hb : CE X W b g) : CE X W (.BinOp a .Mult b pos) (dI kMul f g) := ce_ii (fun i j => gq_cases _ _) op_mulG ha hb
theorem gqP {P : Int → Int → Prop} {c : Int → Int → Bool} (h : ∀ i j, c i j = true → P i j) (k : Int → Int → Int) (i j : Int) : gq (c i j) (k i j) = .bad ∨ (P i j ∧ gq (c i j) (k i j) = .val (k i j)) := (gq_cases _ _).imp id fun z => ⟨h i j z.1, z.2⟩
theorem ce_fdiv (ha : CE X W a f) (hb : CE X W b g) : CE X W (.BinOp a .FloorDiv b pos) (dI kDiv f g) := ce_ii (gqP cDiv_ok fun i j => i / j) op_fdivW ha hb
theorem ce_mod (ha : CE X W a f) (hb : CE X W b g) : CE X W (.BinOp a .Mod b pos) (dI kMod f g) := ce_ii (gqP cMod_ok fun i j => i % j) op_mod ha hb
theorem ce_pow (ha : CE X W a f) (hb : CE X W b g) : CE X W (.BinOp a .Pow b pos) (dI kPow f g) := ce_ii (gqP cPow_ok fun i j => i ^ j.toNat) op_pow ha hb
theorem ce_shl (ha : CE X W a f) (hb : CE X W b g) : CE X W (.BinOp a .LShift b pos) (dI kShl f g) := ce_ii (gqP cShl_ok fun i j => i * 2 ^ j.toNat) op_shlW ha hb
theorem ce_shr (ha : CE X W a f) (hb : CE X W b g) : CE X W (.BinOp a .RShift b pos) (dI kShr f g) := ce_ii (gqP cShr_ok fun i j => i / 2 ^ j.toNat) op_shr ha hb
/-- reading a value as data -/
def rdD (Γ : List Sl) : AV → Option PyData
  | .d _ x => some x
  | .s i => match Γ[i]? with
    | some (.own (.lst es)) => some (.list es)
    | some (.io (.lst es)) => some (.list es)
    | _ => none
theorem rdD_ok {Γ : List Sl} {y : AV} {x : PyData} (h : rdD Γ y = some x) : Rdb Γ y x := by
  cases y with
  | d fr z => cases h; exact .d
  | s i =>
    unfold rdD at h
    simp only at h
    split at h
    · cases h; exact .o ‹_›
    · cases h; exact .i ‹_›
    · cases h
/-- a + b -/
def addA : AV → AV → R AV
  | .d _ (.int i), .d _ (.int j) => .val (.d true (.int (i + j)))
  | .d f1 (.tuple xs), .d f2 (.tuple ys) => gq (szB (xs ++ ys)) (.d (f1 && f2) (.tuple (xs ++ ys)))
  | .d _ (.str x), .d _ (.str y) => gq (decide (x.length + y.length ≤ sizeLine)) (.d true (.str (x ++ y)))
  | _, _ => .bad
def dAdd (f g : DF) : DF := fun Γ => (f Γ).bind fun x => (g x.2).bind fun y => (addA x.1 y.1).bind fun z => .val (z, y.2)
theorem rg_and1 (G : Gh) (f1 f2 : Bool) : RgLe (rg G f1) (rg G (f1 && f2)) := by
  cases f1 <;> cases f2
  · exact fun _ _ h => h
  · exact fun _ _ h => h
  · exact rg_ff G true
  · exact fun _ _ h => h
theorem rg_and2 (G : Gh) (f1 f2 : Bool) : RgLe (rg G f2) (rg G (f1 && f2)) := by
  rw [Bool.and_comm]
  exact rg_and1 G f2 f1
theorem ce_add (ha : CE X W a f) (hb : CE X W b g) : CE X W (.BinOp a .Add b pos) (dAdd f g) := by
  refine ce_op2 (fun x y Γ2 => (addA x y).bind fun z => .val (z, Γ2)) (opR_or op_add (opR_or op_catA op_add_str)) ha hb fun x y Γ2 G H σ u v Q S hu hv p => ?_
  unfold addA at p
  split at p
  · rename_i i _ j
    exact .inl ⟨i, j, dn_int hu, dn_int hv, Pk.v p S (.int _)⟩
  · rename_i f1 xs f2 ys
    rcases gq_cases (szB (xs ++ ys)) (AV.d (f1 && f2) (.tuple (xs ++ ys))) with e | ⟨hc, e⟩
    · rw [e] at p; exact p.elim
    · rw [e] at p
      have hc := of_decide_eq_true hc
      obtain ⟨q1, vs, rfl, g1, g2⟩ := dn_tuple hu
      obtain ⟨q2, ws, rfl, g3, g4⟩ := dn_tuple hv
      have d1 := g2.mono (rg_and1 G f1 f2) (TupLe.rf H)
      have d2 := g4.mono (rg_and2 G f1 f2) (TupLe.rf H)
      refine .inr (.inl ⟨q1, q2, vs, ws, rfl, rfl, g1, g3, by rw [g2.length, g4.length]; simpa using hc, fun e1 => ?_, fun _ e2 => ?_, fun _ _ l hl => ?_⟩)
      · subst e1
        cases d1
        exact Pk.v p S (.tup g3 d2)
      · subst e2
        cases d2
        refine Pk.v p S ?_
        rw [List.append_nil]
        exact .tup g1 d1
      · obtain ⟨G2, S2, e2, h2⟩ := S.newTup hl (d1.append d2)
        exact Pk.v' p e2 S2 h2
  · rename_i x _ y
    rcases gq_cases (decide (x.length + y.length ≤ sizeLine)) (AV.d true (.str (x ++ y))) with e | ⟨hc, e⟩
    · rw [e] at p; exact p.elim
    · rw [e] at p
      exact .inr (.inr ⟨x, y, dn_str hu, dn_str hv, of_decide_eq_true hc, Pk.v p S (.str _)⟩)
  · exact p.elim
/-- -a, not a -/
def dNeg (f : DF) : DF := fun Γ => (f Γ).bind fun x => match x.1 with
  | .d _ (.int i) => .val (.d true (.int (-i)), x.2)
  | _ => .bad
end
end PD


set_option Elab.async false
set_option linter.all false
set_option maxRecDepth 100000
set_option maxHeartbeats 4000000
set_option autoImplicit false
namespace PD
open PySem L2
section
variable {X : Cx} {W : WX} {sc : Scope} {N : List Str} {a b c e : Expr} {pos : Pos} {f g : DF}
theorem Ev.exc {Γ : List Sl} {τ τ' : Type} {x : Exn} {av : τ → AV} {Γ' : τ → List Sl} {av2 : τ' → AV} {Γ2 : τ' → List Sl} (h : Ev X W Γ e (.exc x : R τ) av Γ') : Ev X W Γ e (.exc x : R τ') av2 Γ2 := pe_imp h fun σ H Q ⟨G, S, p⟩ => ⟨G, S, p⟩
theorem Ev.map {Γ : List Sl} {τ τ' : Type} {m : R τ} {k : τ → τ'} {av : τ' → AV} {Γ' : τ' → List Sl} (h : Ev X W Γ e m (fun r => av (k r)) (fun r => Γ' (k r))) : Ev X W Γ e (m.bind fun r => .val (k r)) av Γ' :=
  pe_imp h fun σ H Q ⟨G, S, p⟩ => ⟨G, S, by cases m <;> exact p⟩
/-- one operand -/
theorem un_rd {Γ : List Sl} {m : R (AV × List Sl)} {k : AV × List Sl → R (AV × List Sl)} {r : V → Hp → VK → Prop} (hk : ∀ x Γ2 G H σ v Q, Sta X.K G H σ Γ2 → AVok X.K G H σ v x → Pk X W G H σ (k (x, Γ2)) Q → r v H Q)
    {σ : St} {H : Hp} {Q : VK} (h : rdE X W Γ (m.bind k) Prod.fst Prod.snd σ H Q) : tUn r (rdE X W Γ m Prod.fst Prod.snd) σ H Q := by
  obtain ⟨G, S, p⟩ := h
  exact ⟨G, S, (Pst.bind p).imp fun x G1 H1 e1 p1 u S1 a1 => hk x.1 x.2 G1 H1 σ u Q S1 a1 p1⟩
theorem ce_neg (ha : CE X W a f) : CE X W (.UnaryOp .USub a pos) (dNeg f) := fun Γ =>
  pe_imp (pe_un un_neg (ha Γ)) fun σ H Q h => un_rd (fun x Γ2 G H σ v Q S hv p => by
    simp only at p
    split at p
    · exact ⟨_, dn_int hv, Pk.v p S (.int _)⟩
    · exact p.elim) h
/-! ## comparisons -/
theorem ce_cmp2 {op : CmpOp} {r : R2} (k : AV → AV → List Sl → R (AV × List Sl)) (ho : OpR X (compareOp op) r) (hm : behindInMarks op b = false) (ha : CE X W a f) (hb : CE X W b g)
    (hk : ∀ x y Γ2 G H σ u v Q, Sta X.K G H σ Γ2 → AVok X.K G H σ u x → AVok X.K G H σ v y → Pk X W G H σ (k x y Γ2) Q → r u v H Q) : CE X W (.Compare a [op] [b] pos) (fun Γ => (f Γ).bind fun x => (g x.2).bind fun y => k x.1 y.1 y.2) := fun Γ =>
  pe_imp (pe_cmpR ho (ha Γ) (pe_any fun x : AV × List Sl => hb x.2) hm) fun σ H Q h => bin_rd (X := X) (W := W) (ava := Prod.fst) (Γa := Prod.snd) (avb := fun _ (y : AV × List Sl) => y.1) (Γb := fun _ (y : AV × List Sl) => y.2) (avk := Prod.fst) (Γk := Prod.snd) (k := fun (x : AV × List Sl) (y : AV × List Sl) => k x.1 y.1 y.2) (fun x y G H σ u v Q S hu hv p => hk x.1 y.1 y.2 G H σ u v Q S hu hv p) h
def boolR (m : R Bool) (Γ : List Sl) : R (AV × List Sl) := m.bind fun b => .val (.d true (.bool b), Γ)
theorem boolR_cases {G : Gh} {H : Hp} {σ : St} {m : R Bool} {Γ : List Sl} {Q : VK} (hx : ∀ x, m ≠ .exc x) (p : Pk X W G H σ (boolR m Γ) Q) (S : Sta X.K G H σ Γ) : ∃ z, m = .val z ∧ Q (.bl z) H := by
  cases m with
  | bad => exact p.elim
  | exc x => exact absurd rfl (hx x)
  | val z => exact ⟨z, rfl, Pk.v p S (.bl z)⟩
def dCmp (k : List Sl → AV → AV → R Bool) (f g : DF) : DF := fun Γ => (f Γ).bind fun x => (g x.2).bind fun y => boolR (k y.2 x.1 y.1) y.2
/-- x == y of data -/
def kEq (Γ : List Sl) (x y : AV) : R Bool := match rdD Γ x, rdD Γ y with
  | some p, some q => gq (SeqAt.shaped p && SeqAt.shaped q) (PyData.eqv p q)
  | _, _ => .bad
def kNe (Γ : List Sl) (x y : AV) : R Bool := (kEq Γ x y).bind fun z => .val (!z)
theorem kEq_val {Γ : List Sl} {x y : AV} : (∃ p q, rdD Γ x = some p ∧ rdD Γ y = some q ∧ SeqAt.shaped p = true ∧ SeqAt.shaped q = true ∧ kEq Γ x y = .val (PyData.eqv p q)) ∨ kEq Γ x y = .bad := by
  unfold kEq
  split
  · rename_i p q h1 h2
    rcases gq_cases (SeqAt.shaped p && SeqAt.shaped q) (PyData.eqv p q) with e | ⟨hc, e⟩
    · exact .inr e
    · rw [Bool.and_eq_true] at hc
      exact .inl ⟨p, q, h1, h2, hc.1, hc.2, e⟩
  · exact .inr rfl
theorem ce_eq (C : Cf X W sc N) (ha : CE X W a f) (hb : CE X W b g) (hm : behindInMarks .Eq b = false := by first | exact nobehind _ (by decide) (by decide) | rfl) : CE X W (.Compare a [.Eq] [b] pos) (dCmp kEq f g) :=
  ce_cmp2 (fun x y Γ2 => boolR (kEq Γ2 x y) Γ2) (op_eqD C.hu) hm ha hb fun x y Γ2 G H σ u v Q S hu hv p => by
    rcases kEq_val (Γ := Γ2) (x := x) (y := y) with ⟨d, z, h1, h2, s1, s2, e⟩ | e
    · rw [e] at p
      exact ⟨d, z, ((rdD_ok h1).ok S hu).dp, ((rdD_ok h2).ok S hv).dp, s1, s2, Pk.v p S (.bl _)⟩
    · rw [e] at p; exact p.elim
theorem ce_ne (C : Cf X W sc N) (ha : CE X W a f) (hb : CE X W b g) (hm : behindInMarks .NotEq b = false := by first | exact nobehind _ (by decide) (by decide) | rfl) : CE X W (.Compare a [.NotEq] [b] pos) (dCmp kNe f g) :=
  ce_cmp2 (fun x y Γ2 => boolR (kNe Γ2 x y) Γ2) (op_neD C.hu) hm ha hb fun x y Γ2 G H σ u v Q S hu hv p => by
    unfold kNe at p
    rcases kEq_val (Γ := Γ2) (x := x) (y := y) with ⟨d, z, h1, h2, s1, s2, e⟩ | e
    · rw [e] at p
      exact ⟨d, z, ((rdD_ok h1).ok S hu).dp, ((rdD_ok h2).ok S hv).dp, s1, s2, Pk.v p S (.bl _)⟩
    · rw [e] at p; exact p.elim
def kI (h : Int → Int → Bool) (_ : List Sl) : AV → AV → R Bool
  | .d _ (.int i), .d _ (.int j) => .val (h i j)
  | _, _ => .bad
theorem ce_cmpI {op : CmpOp} {h : Int → Int → Bool} (ho : OpR X (compareOp op) (rI0 fun i j => .bl (h i j))) (ha : CE X W a f) (hb : CE X W b g) (hm : behindInMarks op b = false) : CE X W (.Compare a [op] [b] pos) (dCmp (kI h) f g) :=
  ce_cmp2 (fun x y Γ2 => boolR (kI h Γ2 x y) Γ2) ho hm ha hb fun x y Γ2 G H σ u v Q S hu hv p => by
    unfold kI at p
    split at p
    · rename_i i _ j
      exact ⟨i, j, dn_int hu, dn_int hv, Pk.v p S (.bl _)⟩
    · exact p.elim
theorem ce_lt (ha : CE X W a f) (hb : CE X W b g) (hm : behindInMarks .Lt b = false := by first | exact nobehind _ (by decide) (by decide) | rfl) : CE X W (.Compare a [.Lt] [b] pos) (dCmp (kI fun i j => decide (i < j)) f g) := ce_cmpI op_lt ha hb hm
theorem ce_le (ha : CE X W a f) (hb : CE X W b g) (hm : behindInMarks .LtE b = false := by first | exact nobehind _ (by decide) (by decide) | rfl) : CE X W (.Compare a [.LtE] [b] pos) (dCmp (kI fun i j => decide (i ≤ j)) f g) := ce_cmpI op_le ha hb hm
theorem ce_gt (ha : CE X W a f) (hb : CE X W b g) (hm : behindInMarks .Gt b = false := by first | exact nobehind _ (by decide) (by decide) | rfl) : CE X W (.Compare a [.Gt] [b] pos) (dCmp (kI fun i j => decide (j < i)) f g) := ce_cmpI op_gt ha hb hm
theorem ce_ge (ha : CE X W a f) (hb : CE X W b g) (hm : behindInMarks .GtE b = false := by first | exact nobehind _ (by decide) (by decide) | rfl) : CE X W (.Compare a [.GtE] [b] pos) (dCmp (kI fun i j => decide (j ≤ i)) f g) := ce_cmpI op_ge ha hb hm
def isN : PyData → Bool
  | .none => true
  | _ => false
def kIs (Γ : List Sl) (x y : AV) : R Bool := match rdD Γ x, y with
  | some p, .d _ .none => .val (isN p)
  | _, _ => .bad
theorem dn_isN {K : PySem.W.Frag} {G : Rg} {H : Hp} {v : V} {p : PyData} (h : Dn K G H v p) : decide (v = .non) = isN p := by cases h <;> rfl
theorem ce_is (ha : CE X W a f) (hb : CE X W b g) (hm : behindInMarks .Is b = false := by first | exact nobehind _ (by decide) (by decide) | rfl) : CE X W (.Compare a [.Is] [b] pos) (dCmp kIs f g) :=
  ce_cmp2 (fun x y Γ2 => boolR (kIs Γ2 x y) Γ2) op_isN hm ha hb fun x y Γ2 G H σ u v Q S hu hv p => by
    unfold kIs at p
    split at p
    · rename_i z _ h1
      refine ⟨dn_none hv, ?_⟩
      rw [dn_isN ((rdD_ok h1).ok S hu)]
      exact Pk.v p S (.bl _)
    · exact p.elim
def kNis (Γ : List Sl) (x y : AV) : R Bool := (kIs Γ x y).bind fun z => .val (!z)
theorem ce_isnot (ha : CE X W a f) (hb : CE X W b g) (hm : behindInMarks .IsNot b = false := by first | exact nobehind _ (by decide) (by decide) | rfl) : CE X W (.Compare a [.IsNot] [b] pos) (dCmp kNis f g) :=
  ce_cmp2 (fun x y Γ2 => boolR (kNis Γ2 x y) Γ2) op_notN hm ha hb fun x y Γ2 G H σ u v Q S hu hv p => by
    unfold kNis kIs at p
    split at p
    · rename_i z _ h1
      refine ⟨dn_none hv, ?_⟩
      rw [dn_isN ((rdD_ok h1).ok S hu)]
      exact Pk.v p S (.bl _)
    · exact p.elim
/-- x in y: a list of data, a tuple of flat data -/
def flD : PyData → Bool
  | .none => true
  | .bool _ => true
  | .int _ => true
  | .str _ => true
  | _ => false
def kIn (Γ : List Sl) (x y : AV) : R Bool := match rdD Γ x, rdD Γ y with
  | some d, some (.list ds) => gq (SeqAt.shaped d && SeqAt.shaped (.list ds)) (ds.any fun z => PyData.eqv z d)
  | some d, some (.tuple ds) => gq (flD d && ds.all flD) (ds.any fun z => PyData.eqv z d)
  | _, _ => .bad
def kNin (Γ : List Sl) (x y : AV) : R Bool := (kIn Γ x y).bind fun z => .val (!z)
theorem flD_ok {K : PySem.W.Frag} {G : Rg} {H : Hp} {v : V} {p : PyData} (h : Dn K G H v p) (hf : flD p = true) : flatV v = true := by cases h <;> first | rfl | cases hf
theorem eqV_ok {K : PySem.W.Frag} {G : Rg} {H : Hp} {v u : V} {p q : PyData} (h : Dn K G H v p) (h' : Dn K G H u q) (hf : flD p = true) (hq : flD q = true) : eqV v u = PyData.eqv p q := by
  cases h <;> first | cases hf; done | (cases h' <;> first | cases hq; done | (simp [eqV, PyData.eqv]))
theorem inV_ok {K : PySem.W.Frag} {G : Rg} {H : Hp} {v : V} {p : PyData} (h : Dn K G H v p) (hf : flD p = true) : ∀ {vs : List V} {ds : List PyData}, DnA K G H vs ds → ds.all flD = true → vs.all flatV = true ∧ inV v vs = ds.any fun z => PyData.eqv z p
  | _, _, .nil, _ => ⟨rfl, rfl⟩
  | _, _, .cons q r, hq => by
    simp only [List.all_cons, Bool.and_eq_true] at hq
    obtain ⟨h1, h2⟩ := inV_ok h hf r hq.2
    refine ⟨by simp [h1, flD_ok q hq.1], ?_⟩
    unfold inV at h2 ⊢
    rw [List.any_cons, List.any_cons, h2, eqV_ok q h hq.1 hf]
theorem kIn_cases {G : Gh} {H : Hp} {σ : St} {Γ : List Sl} {x y : AV} {u v : V} (S : Sta X.K G H σ Γ) (hu : AVok X.K G H σ u x) (hv : AVok X.K G H σ v y) : kIn Γ x y = .bad ∨ ∃ z, kIn Γ x y = .val z ∧
    ((∃ d ds, Dp X.K H u d ∧ Dp X.K H v (.list ds) ∧ SeqAt.shaped d = true ∧ SeqAt.shaped (.list ds) = true ∧ z = ds.any fun z => PyData.eqv z d) ∨
     (∃ p xs, v = .ref p ∧ SqT X.K H p xs ∧ flatV u = true ∧ xs.all flatV = true ∧ z = inV u xs)) := by
  unfold kIn
  split
  · rename_i d ds h1 h2
    rcases gq_cases (SeqAt.shaped d && SeqAt.shaped (.list ds)) (ds.any fun z => PyData.eqv z d) with e | ⟨hc, e⟩
    · exact .inl e
    · rw [Bool.and_eq_true] at hc
      exact .inr ⟨_, e, .inl ⟨d, ds, ((rdD_ok h1).ok S hu).dp, ((rdD_ok h2).ok S hv).dp, hc.1, hc.2, rfl⟩⟩
  · rename_i d ds h1 h2
    rcases gq_cases (flD d && ds.all flD) (ds.any fun z => PyData.eqv z d) with e | ⟨hc, e⟩
    · exact .inl e
    · rw [Bool.and_eq_true] at hc
      obtain ⟨p, xs, rfl, g1, g2⟩ := dn_tuple ((rdD_ok h2).ok S hv)
      obtain ⟨q1, q2⟩ := inV_ok ((rdD_ok h1).ok S hu) hc.1 g2 hc.2
      exact .inr ⟨_, e, .inr ⟨p, xs, rfl, g1, flD_ok ((rdD_ok h1).ok S hu) hc.1, q1, q2.symm⟩⟩
  · exact .inl rfl
theorem ce_in (C : Cf X W sc N) (hu65 : X.A.units + 65 < cLine) (ha : CE X W a f) (hb : CE X W b g) (hm : behindInMarks .In b = false := by rfl) : CE X W (.Compare a [.In] [b] pos) (dCmp kIn f g) :=
  ce_cmp2 (fun x y Γ2 => boolR (kIn Γ2 x y) Γ2) (opR_or (op_inD hu65) op_in_seq) hm ha hb fun x y Γ2 G H σ u v Q S hu hv p => by
    rcases kIn_cases S hu hv with e | ⟨z, e, ⟨d, ds, h1, h2, h3, h4, rfl⟩ | ⟨q, xs, rfl, h1, h2, h3, rfl⟩⟩
    · rw [e] at p; exact p.elim
    · rw [e] at p; exact .inl ⟨d, ds, h1, h2, h3, h4, Pk.v p S (.bl _)⟩
    · rw [e] at p; exact .inr ⟨q, xs, rfl, .inr h1, h2, h3, Pk.v p S (.bl _)⟩
theorem ce_notin (C : Cf X W sc N) (hu65 : X.A.units + 65 < cLine) (ha : CE X W a f) (hb : CE X W b g) (hm : behindInMarks .NotIn b = false := by rfl) : CE X W (.Compare a [.NotIn] [b] pos) (dCmp kNin f g) :=
  ce_cmp2 (fun x y Γ2 => boolR (kNin Γ2 x y) Γ2) (opR_or (op_notInD hu65) op_notIn_seq) hm ha hb fun x y Γ2 G H σ u v Q S hu hv p => by
    unfold kNin at p
    rcases kIn_cases S hu hv with e | ⟨z, e, ⟨d, ds, h1, h2, h3, h4, rfl⟩ | ⟨q, xs, rfl, h1, h2, h3, rfl⟩⟩
    · rw [e] at p; exact p.elim
    · rw [e] at p; exact .inl ⟨d, ds, h1, h2, h3, h4, Pk.v p S (.bl _)⟩
    · rw [e] at p; exact .inr ⟨q, xs, rfl, .inr h1, h2, h3, Pk.v p S (.bl _)⟩
/-! ## tests -/
def asB : AV × List Sl → R (Bool × List Sl)
  | (.d _ (.bool z), Γ) => .val (z, Γ)
  | _ => .bad
def dTst (f : DF) : DT := fun Γ => (f Γ).bind asB
theorem ct_lift {f : DF} (ha : CE X W e f) (h1 : ∀ Γ (z : Bool) (fr : Bool) (Γ1 : List Sl), Ev X W Γ e (R.val ()) (fun _ => .d fr (.bool z)) (fun _ => Γ1) → EvT X W Γ e (R.val ()) (fun _ => z) (fun _ => Γ1))
    (h2 : ∀ Γ x, Ev X W Γ e (.exc x : R Unit) (fun _ => .d true (.bool true)) (fun _ => Γ) → EvT X W Γ e (.exc x : R Unit) (fun _ => true) (fun _ => Γ)) : CT X W e (dTst f) := fun Γ => by
  have h := ha Γ
  unfold dTst
  cases hf : f Γ with
  | bad => exact evt_bad
  | exc x =>
    rw [hf] at h
    exact pt_imp (h2 Γ x (Ev.exc h)) fun σ H Q ⟨G, S, p⟩ => ⟨G, S, p⟩
  | val z =>
    rw [hf] at h
    obtain ⟨y, Γ1⟩ := z
    show EvT X W Γ e (asB (y, Γ1)) _ _
    unfold asB
    split
    · rename_i hz
      cases hz
      exact h1 Γ _ _ _ h
    · exact evt_bad
theorem ct_of (ha : CE X W e f) (he : ∀ whole, isTrue e X.env whole = (do let v ← whole; standAt e.pos; holding [v] (truthy v)) := by intro _; rfl) : CT X W e (dTst f) := ct_lift ha (fun Γ z fr Γ1 h => Ev.tst h he) (fun Γ x h => Ev.tst h he)
theorem ct_cmp {op : CmpOp} (ha : CE X W (.Compare a [op] [b] pos) f) (hm : behindInMarks op b = false := by first | exact nobehind _ (by decide) (by decide) | rfl) : CT X W (.Compare a [op] [b] pos) (dTst f) := ct_lift ha (fun Γ z fr Γ1 h => Ev.tstC h hm) (fun Γ x h => Ev.tstC h hm)
def dTnot (f : DT) : DT := fun Γ => (f Γ).bind fun z => .val (!z.1, z.2)
theorem EvT.map {Γ : List Sl} {τ τ' : Type} {m : R τ} {k : τ → τ'} {av : τ' → Bool} {Γ' : τ' → List Sl} (h : EvT X W Γ e m (fun r => av (k r)) (fun r => Γ' (k r))) : EvT X W Γ e (m.bind fun r => .val (k r)) av Γ' :=
  pt_imp h fun σ H Q ⟨G, S, p⟩ => ⟨G, S, by cases m <;> exact p⟩
theorem ct_not {f : DT} (ha : CT X W a f) : CT X W (.UnaryOp .Not a pos) (dTnot f) := fun Γ => EvT.map (evt_notM (ha Γ))
theorem ct_w {f : DT} (h : CW X W e f) : CT X W e f := fun Γ => (h Γ).t
variable {rest : List Expr}
theorem cw_or1 {f : DT} (h : CT X W a f) : CW X W (.BoolOp .Or [a] pos) f := fun Γ => evw_orM1 (h Γ)
theorem cw_and1 {f : DT} (h : CT X W a f) : CW X W (.BoolOp .And [a] pos) f := fun Γ => evw_andM1 (h Γ)
def dTor (f g : DT) : DT := fun Γ => (f Γ).bind fun x => if x.1 then .val (true, x.2) else (g x.2).bind fun y => .val y
def dTand (f g : DT) : DT := fun Γ => (f Γ).bind fun x => if x.1 then (g x.2).bind fun y => .val y else .val (false, x.2)
theorem cw_or {f g : DT} (ha : CT X W a f) (hb : CW X W (.BoolOp .Or (b :: rest) pos) g) : CW X W (.BoolOp .Or (a :: b :: rest) pos) (dTor f g) := fun Γ => evw_orM (ha Γ) (fun x => hb x.2) (fun x => (true, x.2)) (fun _ y => y)
theorem cw_and {f g : DT} (ha : CT X W a f) (hb : CW X W (.BoolOp .And (b :: rest) pos) g) : CW X W (.BoolOp .And (a :: b :: rest) pos) (dTand f g) := fun Γ => evw_andM (ha Γ) (fun x => hb x.2) (fun x => (false, x.2)) (fun _ y => y)
end
end PD


set_option Elab.async false
set_option linter.all false
set_option maxRecDepth 100000
set_option maxHeartbeats 4000000
set_option autoImplicit false
namespace PD
open PySem L2
section
variable {X : Cx} {W : WX} {sc : Scope} {N : List Str} {a b c e : Expr} {es : List Expr} {pos p : Pos} {f g : DF} {k : DA}
/-! ## truths as values -/
theorem ce_one {op : BoolOp} (ha : CE X W a f) : CE X W (.BoolOp op [a] pos) f := fun Γ => evv_oneM (ha Γ)
variable {rest : List Expr}
def dAnd (f g : DF) : DF := fun Γ => (f Γ).bind fun x => (asB x).bind fun u => if u.1 then (g u.2).bind fun y => (asB y).bind fun z => .val (.d true (.bool z.1), z.2) else .val (.d true (.bool false), u.2)
def dOr (f g : DF) : DF := fun Γ => (f Γ).bind fun x => (asB x).bind fun u => if u.1 then .val (.d true (.bool true), u.2) else (g u.2).bind fun y => (asB y).bind fun z => .val (.d true (.bool z.1), z.2)
theorem ce_and (ha : CE X W a f) (hb : CE X W (.BoolOp .And (b :: rest) pos) g) : CE X W (.BoolOp .And (a :: b :: rest) pos) (dAnd f g) := fun Γ =>
  pe_imp (pe_and (ha Γ) (pe_any fun Γ1 => hb Γ1)) fun σ H Q ⟨G, S, q⟩ => ⟨G, S, (Pst.bind q).imp fun x G1 H1 e1 p1 v S1 hv => by
    obtain ⟨x, Γ1⟩ := x
    unfold asB at p1
    split at p1
    · rename_i z Γ2 hz
      cases hz
      refine ⟨_, dn_bool hv, ?_⟩
      have p1 : Pst X W G1 H1 σ (if z then (g Γ1).bind fun y => (asB y).bind fun z => .val (.d true (.bool z.1), z.2) else .val (.d true (.bool false), Γ1)) (fun r G' H' => ∀ w, Sta X.K G' H' σ r.2 → AVok X.K G' H' σ w r.1 → Q w H') := p1
      cases z with
      | false => exact itF (p1 G1 H1 (Ext.rf S1.w) _ S1 (.bl _))
      | true =>
        refine itT ⟨Γ1, G1, S1, (Pst.bind p1).imp fun y G2 H2 e2 p2 w S2 hw => ?_⟩
        obtain ⟨y, Γ2⟩ := y
        unfold asB at p2
        split at p2
        · rename_i hz
          cases hz
          have hw : Dn X.K _ H2 w (.bool _) := hw
          rw [dn_bool hw]
          exact p2 G2 H2 (Ext.rf S2.w) _ S2 (.bl _)
        · exact p2.elim
    · exact p1.elim⟩
theorem ce_or (ha : CE X W a f) (hb : CE X W (.BoolOp .Or (b :: rest) pos) g) : CE X W (.BoolOp .Or (a :: b :: rest) pos) (dOr f g) := fun Γ =>
  pe_imp (pe_or (ha Γ) (pe_any fun Γ1 => hb Γ1)) fun σ H Q ⟨G, S, q⟩ => ⟨G, S, (Pst.bind q).imp fun x G1 H1 e1 p1 v S1 hv => by
    obtain ⟨x, Γ1⟩ := x
    unfold asB at p1
    split at p1
    · rename_i z Γ2 hz
      cases hz
      refine ⟨_, dn_bool hv, ?_⟩
      have p1 : Pst X W G1 H1 σ (if z then .val (.d true (.bool true), Γ1) else (g Γ1).bind fun y => (asB y).bind fun z => .val (.d true (.bool z.1), z.2)) (fun r G' H' => ∀ w, Sta X.K G' H' σ r.2 → AVok X.K G' H' σ w r.1 → Q w H') := p1
      cases z with
      | true => exact itT (p1 G1 H1 (Ext.rf S1.w) _ S1 (.bl _))
      | false =>
        refine itF ⟨Γ1, G1, S1, (Pst.bind p1).imp fun y G2 H2 e2 p2 w S2 hw => ?_⟩
        obtain ⟨y, Γ2⟩ := y
        unfold asB at p2
        split at p2
        · rename_i hz
          cases hz
          have hw : Dn X.K _ H2 w (.bool _) := hw
          rw [dn_bool hw]
          exact p2 G2 H2 (Ext.rf S2.w) _ S2 (.bl _)
        · exact p2.elim
    · exact p1.elim⟩
def dNot (f : DF) : DF := fun Γ => (f Γ).bind fun x => (asB x).bind fun u => .val (.d true (.bool (!u.1)), u.2)
theorem ce_not (ha : CE X W a f) : CE X W (.UnaryOp .Not a pos) (dNot f) := fun Γ =>
  pe_imp (pe_not (ha Γ)) fun σ H Q ⟨G, S, q⟩ => ⟨G, S, (Pst.bind q).imp fun x G1 H1 e1 p1 v S1 hv => by
    obtain ⟨x, Γ1⟩ := x
    unfold asB at p1
    split at p1
    · rename_i z Γ2 hz
      cases hz
      exact ⟨_, dn_bool hv, p1 G1 H1 (Ext.rf S1.w) _ S1 (.bl _)⟩
    · exact p1.elim⟩
def dIf (c : DT) (f g : DF) : DF := fun Γ => (c Γ).bind fun x => if x.1 then f x.2 else g x.2
theorem ce_ife {h : DT} (hc : CT X W c h) (ha : CE X W a f) (hb : CE X W b g) : CE X W (.IfExp c a b pos) (dIf h f g) := fun Γ => ev_ife (hc Γ) (fun x => ha x.2) (fun x => hb x.2)
/-! ## arguments, displays -/
def dA0 : DA := fun Γ => .val ([], Γ)
def dAc (f : DF) (k : DA) : DA := fun Γ => (f Γ).bind fun x => (k x.2).bind fun y => .val (x.1 :: y.1, y.2)
theorem ca_nil : CA X W [] dA0 := fun Γ => eva_nil (W := W)
theorem ca_cons (ha : CE X W e f) (hb : CA X W es k) (hst : starEach (e :: es) X.env = (false, eval e X.env) :: starEach es X.env := by rfl) : CA X W (e :: es) (dAc f k) := fun Γ => eva_cons (as := Prod.fst) (Γk := Prod.snd) (fun (x : AV × List Sl) (y : List AV × List Sl) => (x.1 :: y.1, y.2)) (ha Γ) (fun x => hb x.2) (fun _ _ => rfl) (fun _ _ => rfl) hst
/-- a list of one's own is given away -/
def frzA : AV × List Sl → R (AV × List Sl)
  | (.d true d, Γ) => .val (.d true d, Γ)
  | (.d false d, Γ) => .val (.d (flat d) d, Γ)
  | (.s i, Γ) => match Γ[i]? with
    | some (.own (.lst es)) => .val (.d true (.list es), Γ.set i (.dat true (.list es)))
    | _ => .bad
def dFrz (f : DF) : DF := fun Γ => (f Γ).bind frzA
theorem Pk.ext {G G' : Gh} {H H' : Hp} {σ : St} {m : R (AV × List Sl)} {Q : VK} (h : Pk X W G H σ m Q) (e : Ext G H G' H') : Pk X W G' H' σ m Q := Pst.ext h e
theorem frz_ok {G : Gh} {H : Hp} {σ : St} {x : AV} {Γ : List Sl} {v : V} {Q : VK} (S : Sta X.K G H σ Γ) (hv : AVok X.K G H σ v x) (p : Pk X W G H σ (frzA (x, Γ)) Q) : Q v H := by
  unfold frzA at p
  split at p
  · rename_i hz; cases hz; exact Pk.v p S hv
  · rename_i d Γ2 hz
    cases hz
    refine Pk.v p S ?_
    cases hf : flat d with
    | false => exact hv
    | true => exact Dn.free hv hf
  · rename_i i Γ2 hz
    cases hz
    split at p
    · rename_i ds hi
      obtain ⟨A, T⟩ := id S
      obtain ⟨G2, S2, e2⟩ := S.freeze i hi
      have h2 : (Γ.set i (.dat true (.list ds)))[i]? = some (.dat true (.list ds)) := set_at (List.getElem?_eq_some_iff.mp hi).1
      obtain ⟨A2, T2⟩ := id S2
      obtain ⟨_, w, g1, g2⟩ := T2.sl i _ h2
      have hv : σ[i]? = some (some v) := hv
      rw [hv] at g1
      cases g1
      exact Pk.v' p e2 S2 g2
    · exact p.elim
theorem ce_frz (ha : CE X W e f) : CE X W e (dFrz f) := fun Γ =>
  pe_imp (ha Γ) fun σ H Q ⟨G, S, q⟩ => ⟨G, S, (Pst.bind q).imp fun x G1 H1 e1 p1 v S1 hv => frz_ok (x := x.1) (Γ := x.2) S1 hv p1⟩
def avD : AV → Option PyData
  | .d true d => some d
  | _ => none
def allT : List AV → Option (List PyData)
  | [] => some []
  | .d true d :: as => (allT as).map (d :: ·)
  | _ => none
def allF : List AV → Option (List PyData × Bool)
  | [] => some ([], true)
  | .d fr d :: as => (allF as).map fun z => (d :: z.1, fr && z.2)
  | _ => none
theorem allT_ok {K : PySem.W.Frag} {G : Gh} {H : Hp} {σ : St} : ∀ {as : List AV} {ds : List PyData} {vs : List V}, allT as = some ds → AVs K G H σ vs as → DnA K (rg G true) H vs ds
  | [], _, _, h, .nil => by cases h; exact .nil
  | .d true d :: as, ds, _, h, .cons q r => by
    unfold allT at h
    cases e : allT as with
    | none => rw [e] at h; cases h
    | some xs => rw [e] at h; cases h; exact .cons q (allT_ok e r)
  | .d false d :: as, ds, _, h, _ => by cases h
  | .s i :: as, ds, _, h, _ => by cases h
theorem allF_ok {K : PySem.W.Frag} {G : Gh} {H : Hp} {σ : St} : ∀ {as : List AV} {z : List PyData × Bool} {vs : List V}, allF as = some z → AVs K G H σ vs as → DnA K (rg G z.2) H vs z.1
  | [], _, _, h, .nil => by cases h; exact .nil
  | .d fr d :: as, ds, _, h, .cons q r => by
    unfold allF at h
    cases e : allF as with
    | none => rw [e] at h; cases h
    | some xs =>
      rw [e] at h
      cases h
      exact .cons (Dn.mono (rg_and1 G fr xs.2) (TupLe.rf _) q) ((allF_ok e r).mono (rg_and2 G fr xs.2) (TupLe.rf _))
  | .s i :: as, ds, _, h, _ => by cases h
def dLst (k : DA) : DN := fun Γ => (k Γ).bind fun z => match allT z.1 with
  | some ds => gq (szB z.1) (ds, z.2)
  | none => .bad
theorem cn_lst (ha : CA X W es k) : CN X W (.List es pos) (dLst k) := fun Γ =>
  pe_imp (pe_lst (ha Γ)) fun σ H Q ⟨G, S, q⟩ => ⟨G, S, (Pst.bind q).imp fun x G1 H1 e1 p1 vs S1 av => by
    split at p1
    · rename_i ds hd
      rcases gq_cases (szB x.1) (ds, x.2) with e | ⟨hc, e⟩
      · rw [e] at p1; exact p1.elim
      · rw [e] at p1
        exact ⟨by rw [av.len]; exact of_decide_eq_true hc, fun q hq => p1 G1 H1 (Ext.rf S1.w) q vs S1 hq (allT_ok hd av)⟩
    · exact p1.elim⟩
def dTup (k : DA) : DF := fun Γ => (k Γ).bind fun z => match allF z.1 with
  | some ds => gq (szB z.1) (.d ds.2 (.tuple ds.1), z.2)
  | none => .bad
theorem ce_tup {kk : Nat} (ha : CA X W es k) : CE X W (.Tuple es kk pos) (dTup k) := fun Γ =>
  pe_imp (pe_tup (ha Γ)) fun σ H Q ⟨G, S, q⟩ => ⟨G, S, (Pst.bind q).imp fun x G1 H1 e1 p1 vs S1 av => by
    split at p1
    · rename_i ds hd
      rcases gq_cases (szB x.1) (AV.d ds.2 (.tuple ds.1), x.2) with e | ⟨hc, e⟩
      · rw [e] at p1; exact p1.elim
      · rw [e] at p1
        refine ⟨by rw [av.len]; exact of_decide_eq_true hc, fun q hq => ?_⟩
        obtain ⟨G2, S2, e2, h2⟩ := S1.newTup hq (allF_ok hd av)
        exact p1 G2 _ e2 _ S2 h2
    · exact p1.elim⟩
/-- a new list as data -/
def dOfN (n : DN) : DF := fun Γ => (n Γ).bind fun z => .val (.d true (.list z.1), z.2)
theorem ce_ofN {n : DN} (h : CN X W e n) : CE X W e (dOfN n) := fun Γ => Ev.map (k := fun z : List PyData × List Sl => (AV.d true (.list z.1), z.2)) (EvF.ev (h Γ))
/-! ## subscripts -/
def ixA (Γ : List Sl) (x y : AV) : R AV := match x, y with
  | .d fr (.list ds), .d _ (.int i) => (R.ofO (atI ds i)).bind fun d => .val (.d fr d)
  | .d fr (.tuple ds), .d _ (.int i) => (R.ofO (atI ds i)).bind fun d => .val (.d fr d)
  | .s j, .d _ (.int i) => match rdD Γ (.s j) with
    | some (.list ds) => (R.ofO (atI ds i)).bind fun d => .val (.d true d)
    | _ => .bad
  | _, _ => .bad
def dIx (f g : DF) : DF := fun Γ => (f Γ).bind fun x => (g x.2).bind fun y => (ixA y.2 x.1 y.1).bind fun z => .val (z, y.2)
theorem Sta.slotL {K : PySem.W.Frag} {G : Gh} {H : Hp} {σ : St} {Γ : List Sl} {j : Nat} {ds : List PyData} {u : V} (S : Sta K G H σ Γ) (h : rdD Γ (.s j) = some (.list ds)) (hu : σ[j]? = some (some u)) : ∃ p vs, u = .ref p ∧ H p = some (.lst vs) ∧ DnA K (rg G true) H vs ds := by
  have hg : Γ[j]? = some (.own (.lst ds)) ∨ Γ[j]? = some (.io (.lst ds)) := by
    unfold rdD at h
    simp only at h
    split at h
    · cases h; exact .inl ‹_›
    · cases h; exact .inr ‹_›
    · cases h
  have : ∃ p vs, σ[j]? = some (some (.ref p)) ∧ H p = some (.lst vs) ∧ DnA K (rg G true) H vs ds := by
    rcases hg with hg | hg
    · obtain ⟨p, vs, q1, q2, q3, _⟩ := S.change j hg
      exact ⟨p, vs, q1, q2, q3⟩
    · obtain ⟨p, vs, q1, q2, q3, _⟩ := S.changeIo j hg
      exact ⟨p, vs, q1, q2, q3⟩
  obtain ⟨p, vs, q1, q2, q3⟩ := this
  rw [q1] at hu
  cases hu
  exact ⟨p, vs, rfl, q2, q3⟩
theorem ce_ix (ha : CE X W a f) (hb : CE X W b g) (hs : PlainIx b := by exact fun _ _ => rfl) : CE X W (.Subscript a b pos) (dIx f g) := fun Γ =>
  pe_imp (pe_ix ix_seq (ha Γ) (pe_any fun x : AV × List Sl => hb x.2) hs) fun σ H Q h => bin_rd (X := X) (W := W) (ava := Prod.fst) (Γa := Prod.snd) (avb := fun _ (y : AV × List Sl) => y.1) (Γb := fun _ (y : AV × List Sl) => y.2) (avk := Prod.fst) (Γk := Prod.snd) (k := fun (x : AV × List Sl) (y : AV × List Sl) => (ixA y.2 x.1 y.1).bind fun z => .val (z, y.2)) (fun x y G H σ u v Q S hu hv p => by
    obtain ⟨x, Γ1⟩ := x
    obtain ⟨y, Γ2⟩ := y
    simp only at hu hv S p
    unfold ixA at p
    split at p
    · rename_i fr ds _ i
      cases hz : atI ds i with
      | none => rw [hz] at p; exact p.elim
      | some d =>
        rw [hz] at p
        obtain ⟨q, xs, rfl, g1, g2⟩ := dn_list hu
        obtain ⟨w, g3, g4⟩ := atI_dn g2 hz
        exact .inl ⟨q, xs, i, w, rfl, dn_int hv, (g1.mono (S.w.rgl fr)).sq, g3, p G H (Ext.rf S.w) w S g4⟩
    · rename_i fr ds _ i
      cases hz : atI ds i with
      | none => rw [hz] at p; exact p.elim
      | some d =>
        rw [hz] at p
        obtain ⟨q, xs, rfl, g1, g2⟩ := dn_tuple hu
        obtain ⟨w, g3, g4⟩ := atI_dn g2 hz
        exact .inr (.inl ⟨q, xs, i, w, rfl, dn_int hv, g1, g3, p G H (Ext.rf S.w) w S g4⟩)
    · rename_i j _ i
      split at p
      · rename_i ds hd
        cases hz : atI ds i with
        | none => rw [hz] at p; exact p.elim
        | some d =>
          rw [hz] at p
          obtain ⟨q, xs, rfl, g1, g2⟩ := S.slotL hd hu
          obtain ⟨w, g3, g4⟩ := atI_dn g2 hz
          exact .inl ⟨q, xs, i, w, rfl, dn_int hv, SqL.of g1, g3, p G H (Ext.rf S.w) w S g4⟩
      · exact p.elim
    · exact p.elim) h
end
end PD


set_option Elab.async false
set_option linter.all false
set_option maxRecDepth 100000
set_option maxHeartbeats 4000000
set_option autoImplicit false
namespace PD
open PySem L2
def intsOf : List PyData → Option (List Int)
  | [] => some []
  | .int i :: ds => (intsOf ds).map (i :: ·)
  | _ => none
theorem intsOf_eq : ∀ {ds : List PyData} {ns : List Int}, intsOf ds = some ns → ds = ns.map PyData.int
  | [], _, h => by cases h; rfl
  | .int i :: ds, ns, h => by
    unfold intsOf at h
    cases e : intsOf ds with
    | none => rw [e] at h; cases h
    | some ms => rw [e] at h; cases h; rw [intsOf_eq e]; rfl
  | .none :: _, _, h => by cases h
  | .bool _ :: _, _, h => by cases h
  | .str _ :: _, _, h => by cases h
  | .list _ :: _, _, h => by cases h
  | .tuple _ :: _, _, h => by cases h
  | .dict _ :: _, _, h => by cases h
theorem intsOf_map : ∀ ns : List Int, intsOf (ns.map PyData.int) = some ns
  | [] => rfl
  | n :: ns => by simp [intsOf, intsOf_map ns]
def boolsOf : List PyData → Option (List Bool)
  | [] => some []
  | .bool i :: ds => (boolsOf ds).map (i :: ·)
  | _ => none
theorem boolsOf_eq : ∀ {ds : List PyData} {ns : List Bool}, boolsOf ds = some ns → ds = ns.map PyData.bool
  | [], _, h => by cases h; rfl
  | .bool i :: ds, ns, h => by
    unfold boolsOf at h
    cases e : boolsOf ds with
    | none => rw [e] at h; cases h
    | some ms => rw [e] at h; cases h; rw [boolsOf_eq e]; rfl
  | .none :: _, _, h => by cases h
  | .int _ :: _, _, h => by cases h
  | .str _ :: _, _, h => by cases h
  | .list _ :: _, _, h => by cases h
  | .tuple _ :: _, _, h => by cases h
  | .dict _ :: _, _, h => by cases h
theorem boolsOf_map : ∀ ns : List Bool, boolsOf (ns.map PyData.bool) = some ns
  | [] => rfl
  | n :: ns => by simp [boolsOf, boolsOf_map ns]
section
variable {X : Cx} {W : WX} {sc : Scope} {N : List Str} {a b c e : Expr} {es : List Expr} {pos p : Pos} {f g : DF} {k : DA}
theorem callR_or {v : Value} {r1 r2 : List V → Hp → VK → Prop} (h1 : CallR X v r1) (h2 : CallR X v r2) : CallR X v (fun vs H Q => r1 vs H Q ∨ r2 vs H Q) := fun pins s σ H xs us Q I rv z => z.elim (h1 pins s σ H xs us Q I rv) (h2 pins s σ H xs us Q I rv)
def dB (q : List Sl → List AV → R AV) (k : DA) : DF := fun Γ => (k Γ).bind fun z => (q z.2 z.1).bind fun y => .val (y, z.2)
theorem ce_bB (C : Cf X W sc N) {x : Str} {id : String} {r : List V → Hp → VK → Prop} (q : List Sl → List AV → R AV) (hc : CallR X (.builtin id) r) (hg : glB sc x = true) (hm : X.mg x = none) (hv : bootBuiltins x = some (.builtin id)) (ha : CA X W (e :: es) k)
    (hk : ∀ as Γ2 G H σ vs Q, Sta X.K G H σ Γ2 → AVs X.K G H σ vs as → Pk X W G H σ ((q Γ2 as).bind fun y => .val (y, Γ2)) Q → r vs H Q)
    (hn : x ≠ "__name__" := by decide +kernel) (hdb : (x == ("__debug__" : Str)) = false := by decide +kernel) (he : starEach (e :: es) X.env = (false, eval e X.env) :: starEach es X.env := by rfl) (hpl : (backTo pos (starEach es X.env)).any (·.1) = false := by rfl) :
    CE X W (.Call (.Name x p) (e :: es) [] pos) (dB q k) := fun Γ => ev_callB (k := fun z : List AV × List Sl => (q z.2 z.1).bind fun y => .val (y, z.2)) C hc hg hm hv (ha Γ) (fun z G H σ vs Q S h p => hk z.1 z.2 G H σ vs Q S h p) hn hdb he hpl
theorem ce_bT (C : Cf X W sc N) {x : Str} {id : String} {r : List V → Hp → VK → Prop} (q : List Sl → List AV → R AV) (hc : CallR X (.type id) r) (hg : glB sc x = true) (hm : X.mg x = none) (hv : bootBuiltins x = some (.type id)) (ha : CA X W (e :: es) k)
    (hk : ∀ as Γ2 G H σ vs Q, Sta X.K G H σ Γ2 → AVs X.K G H σ vs as → Pk X W G H σ ((q Γ2 as).bind fun y => .val (y, Γ2)) Q → r vs H Q)
    (hn : x ≠ "__name__" := by decide +kernel) (hdb : (x == ("__debug__" : Str)) = false := by decide +kernel) (he : starEach (e :: es) X.env = (false, eval e X.env) :: starEach es X.env := by rfl) (hpl : (backTo pos (starEach es X.env)).any (·.1) = false := by rfl) :
    CE X W (.Call (.Name x p) (e :: es) [] pos) (dB q k) := fun Γ => ev_callT (k := fun z : List AV × List Sl => (q z.2 z.1).bind fun y => .val (y, z.2)) C hc hg hm hv (ha Γ) (fun z G H σ vs Q S h p => hk z.1 z.2 G H σ vs Q S h p) hn hdb he hpl
def Pn (X : Cx) (W : WX) (G : Gh) (H : Hp) (σ : St) (m : R (List PyData × List Sl)) (Q : VK) : Prop := Pst X W G H σ m fun z G' H' => ∀ q ws, Sta X.K G' H' σ z.2 → H' q = none → DnA X.K (rg G' true) H' ws z.1 → Q (.ref q) (upd H' q (.lst ws))
def dBN (q : List Sl → List AV → R (List PyData)) (k : DA) : DN := fun Γ => (k Γ).bind fun z => (q z.2 z.1).bind fun y => .val (y, z.2)
theorem cn_bB (C : Cf X W sc N) {x : Str} {id : String} {r : List V → Hp → VK → Prop} (q : List Sl → List AV → R (List PyData)) (hc : CallR X (.builtin id) r) (hg : glB sc x = true) (hm : X.mg x = none) (hv : bootBuiltins x = some (.builtin id)) (ha : CA X W (e :: es) k)
    (hk : ∀ as Γ2 G H σ vs Q, Sta X.K G H σ Γ2 → AVs X.K G H σ vs as → Pn X W G H σ ((q Γ2 as).bind fun y => .val (y, Γ2)) Q → r vs H Q)
    (hn : x ≠ "__name__" := by decide +kernel) (hdb : (x == ("__debug__" : Str)) = false := by decide +kernel) (he : starEach (e :: es) X.env = (false, eval e X.env) :: starEach es X.env := by rfl) (hpl : (backTo pos (starEach es X.env)).any (·.1) = false := by rfl) :
    CN X W (.Call (.Name x p) (e :: es) [] pos) (dBN q k) := fun Γ => evf_callB (k := fun z : List AV × List Sl => (q z.2 z.1).bind fun y => .val (y, z.2)) C hc hg hm hv (ha Γ) (fun z G H σ vs Q S h p => hk z.1 z.2 G H σ vs Q S h p) hn hdb he hpl
theorem cn_bT (C : Cf X W sc N) {x : Str} {id : String} {r : List V → Hp → VK → Prop} (q : List Sl → List AV → R (List PyData)) (hc : CallR X (.type id) r) (hg : glB sc x = true) (hm : X.mg x = none) (hv : bootBuiltins x = some (.type id)) (ha : CA X W (e :: es) k)
    (hk : ∀ as Γ2 G H σ vs Q, Sta X.K G H σ Γ2 → AVs X.K G H σ vs as → Pn X W G H σ ((q Γ2 as).bind fun y => .val (y, Γ2)) Q → r vs H Q)
    (hn : x ≠ "__name__" := by decide +kernel) (hdb : (x == ("__debug__" : Str)) = false := by decide +kernel) (he : starEach (e :: es) X.env = (false, eval e X.env) :: starEach es X.env := by rfl) (hpl : (backTo pos (starEach es X.env)).any (·.1) = false := by rfl) :
    CN X W (.Call (.Name x p) (e :: es) [] pos) (dBN q k) := fun Γ => evf_callT (k := fun z : List AV × List Sl => (q z.2 z.1).bind fun y => .val (y, z.2)) C hc hg hm hv (ha Γ) (fun z G H σ vs Q S h p => hk z.1 z.2 G H σ vs Q S h p) hn hdb he hpl
theorem Pn.v {G : Gh} {H : Hp} {σ : St} {ds : List PyData} {Γ : List Sl} {Q : VK} (h : Pn X W G H σ (.val (ds, Γ)) Q) (S : Sta X.K G H σ Γ) {q : Addr} {ws : List V} (hq : H q = none) (hd : DnA X.K (rg G true) H ws ds) : Q (.ref q) (upd H q (.lst ws)) := h G H (Ext.rf S.w) q ws S hq hd
/-- len(x) -/
def kLen (Γ : List Sl) : List AV → R AV
  | [x] => match rdD Γ x with
    | some (.list ds) => .val (.d true (.int (ds.length : Nat)))
    | some (.tuple ds) => .val (.d true (.int (ds.length : Nat)))
    | some (.str z) => gq (decide (z.length ≤ sizeLine)) (.d true (.int (z.length : Nat)))
    | _ => .bad
  | _ => .bad
theorem ce_len (C : Cf X W sc N) (hg : glB sc "len" = true) (hm : X.mg "len" = none) (ha : CA X W [e] k) (he : starEach [e] X.env = (false, eval e X.env) :: starEach [] X.env := by rfl) : CE X W (.Call (.Name "len" p) [e] [] pos) (dB kLen k) :=
  ce_bB C kLen (callR_or call_len_seq call_len_str) hg hm PySem.boot_len ha (fun as Γ2 G H σ vs Q S h q => by
    unfold kLen at q
    split at q
    · obtain ⟨v, rfl, hv⟩ := avs_one h
      split at q
      · rename_i ds hd
        obtain ⟨l, xs, rfl, g1, g2⟩ := dn_list ((rdD_ok hd).ok S hv)
        refine .inl ⟨l, xs, rfl, .inl g1.sq, Pk.v q S ?_⟩
        rw [g2.length]
        exact .int _
      · rename_i ds hd
        obtain ⟨l, xs, rfl, g1, g2⟩ := dn_tuple ((rdD_ok hd).ok S hv)
        refine .inl ⟨l, xs, rfl, .inr g1, Pk.v q S ?_⟩
        rw [g2.length]
        exact .int _
      · rename_i z hd
        rcases gq_cases (decide (z.length ≤ sizeLine)) (AV.d true (.int (z.length : Nat))) with e | ⟨hc, e⟩
        · rw [e] at q; exact q.elim
        · rw [e] at q
          exact .inr ⟨z, by rw [dn_str ((rdD_ok hd).ok S hv)], of_decide_eq_true hc, Pk.v q S (.int _)⟩
      · exact q.elim
    · exact q.elim) (by decide +kernel) (by decide +kernel) he
def kMax2 (_ : List Sl) : List AV → R AV
  | [.d _ (.int i), .d _ (.int j)] => .val (.d true (.int (max2 i j)))
  | _ => .bad
def kMin2 (_ : List Sl) : List AV → R AV
  | [.d _ (.int i), .d _ (.int j)] => .val (.d true (.int (min2 i j)))
  | _ => .bad
theorem ce_max2 (C : Cf X W sc N) (hg : glB sc "max" = true) (hm : X.mg "max" = none) (ha : CA X W (e :: es) k) (he : starEach (e :: es) X.env = (false, eval e X.env) :: starEach es X.env := by rfl) (hpl : (backTo pos (starEach es X.env)).any (·.1) = false := by rfl) : CE X W (.Call (.Name "max" p) (e :: es) [] pos) (dB kMax2 k) :=
  ce_bB C kMax2 (call_max2 C.calm) hg hm PyProof.Rows.boot_max ha (fun as Γ2 G H σ vs Q S h q => by
    unfold kMax2 at q
    split at q
    · obtain ⟨v, u, rfl, q1, q2⟩ := avs_two h
      exact ⟨_, _, by rw [dn_int q1, dn_int q2], Pk.v q S (.int _)⟩
    · exact q.elim) (by decide +kernel) (by decide +kernel) he hpl
theorem ce_min2 (C : Cf X W sc N) (hg : glB sc "min" = true) (hm : X.mg "min" = none) (ha : CA X W (e :: es) k) (he : starEach (e :: es) X.env = (false, eval e X.env) :: starEach es X.env := by rfl) (hpl : (backTo pos (starEach es X.env)).any (·.1) = false := by rfl) : CE X W (.Call (.Name "min" p) (e :: es) [] pos) (dB kMin2 k) :=
  ce_bB C kMin2 (call_min2 C.calm) hg hm (by decide +kernel) ha (fun as Γ2 G H σ vs Q S h q => by
    unfold kMin2 at q
    split at q
    · obtain ⟨v, u, rfl, q1, q2⟩ := avs_two h
      exact ⟨_, _, by rw [dn_int q1, dn_int q2], Pk.v q S (.int _)⟩
    · exact q.elim) (by decide +kernel) (by decide +kernel) he hpl
/-- a list of ints -/
def rdInts (Γ : List Sl) (x : AV) : Option (List Int) := match rdD Γ x with
  | some (.list ds) => intsOf ds
  | _ => none
theorem rdInts_ok {G : Gh} {H : Hp} {σ : St} {Γ : List Sl} {x : AV} {v : V} {ns : List Int} (S : Sta X.K G H σ Γ) (hv : AVok X.K G H σ v x) (h : rdInts Γ x = some ns) : ∃ l, v = .ref l ∧ SqL X.K H l (ns.map V.int) := by
  unfold rdInts at h
  split at h
  · rename_i ds hd
    obtain ⟨l, xs, rfl, g1, g2⟩ := dn_list ((rdD_ok hd).ok S hv)
    rw [intsOf_eq h] at g2
    rw [dna_ints g2] at g1
    exact ⟨l, rfl, g1.sq⟩
  · cases h
def kSum (Γ : List Sl) : List AV → R AV
  | [x] => (R.ofO (rdInts Γ x)).bind fun ns => .val (.d true (.int ns.sum))
  | _ => .bad
theorem ofO_cases {α β : Type} {o : Option α} {k : α → R β} : (∃ y, o = some y ∧ (R.ofO o).bind k = k y) ∨ (R.ofO o).bind k = .bad := by
  cases o with
  | none => exact .inr rfl
  | some y => exact .inl ⟨y, rfl, rfl⟩
theorem ce_sum (C : Cf X W sc N) (hg : glB sc "sum" = true) (hm : X.mg "sum" = none) (ha : CA X W [e] k) (he : starEach [e] X.env = (false, eval e X.env) :: starEach [] X.env := by rfl) : CE X W (.Call (.Name "sum" p) [e] [] pos) (dB kSum k) :=
  ce_bB C kSum (cr_sum C.calm) hg hm (by decide +kernel) ha (fun as Γ2 G H σ vs Q S h q => by
    unfold kSum at q
    split at q
    · rename_i x
      obtain ⟨v, rfl, hv⟩ := avs_one h
      rcases ofO_cases (o := rdInts Γ2 x) (k := fun ns => R.val (AV.d true (.int ns.sum))) with ⟨ns, e1, e2⟩ | e2
      · rw [e2] at q
        obtain ⟨l, rfl, hs⟩ := rdInts_ok S hv e1
        exact ⟨l, ns, rfl, hs, Pk.v q S (.int _)⟩
      · rw [e2] at q; exact q.elim
    · exact q.elim) (by decide +kernel) (by decide +kernel) he
def maxL : List Int → Option Int
  | [] => none
  | n :: ns => some (ns.foldl max2 n)
def minL : List Int → Option Int
  | [] => none
  | n :: ns => some (ns.foldl min2 n)
theorem fold_max : ∀ (ns : List Int) (n : Int), n ≤ ns.foldl max2 n ∧ (∀ y ∈ ns, y ≤ ns.foldl max2 n) ∧ (ns.foldl max2 n = n ∨ ns.foldl max2 n ∈ ns)
  | [], n => ⟨Int.le_refl _, by simp, .inl rfl⟩
  | m :: ns, n => by
    obtain ⟨h1, h2, h3⟩ := fold_max ns (max2 n m)
    rw [List.foldl_cons]
    have hn : n ≤ max2 n m ∧ m ≤ max2 n m ∧ (max2 n m = n ∨ max2 n m = m) := by unfold max2; split <;> omega
    refine ⟨by omega, fun y hy => ?_, ?_⟩
    · rcases List.mem_cons.mp hy with rfl | hy
      · omega
      · exact h2 y hy
    · rcases h3 with h3 | h3
      · rw [h3]; rcases hn.2.2 with e | e
        · exact .inl e
        · exact .inr (by rw [e]; simp)
      · exact .inr (by simp [h3])
theorem fold_min : ∀ (ns : List Int) (n : Int), ns.foldl min2 n ≤ n ∧ (∀ y ∈ ns, ns.foldl min2 n ≤ y) ∧ (ns.foldl min2 n = n ∨ ns.foldl min2 n ∈ ns)
  | [], n => ⟨Int.le_refl _, by simp, .inl rfl⟩
  | m :: ns, n => by
    obtain ⟨h1, h2, h3⟩ := fold_min ns (min2 n m)
    rw [List.foldl_cons]
    have hn : min2 n m ≤ n ∧ min2 n m ≤ m ∧ (min2 n m = n ∨ min2 n m = m) := by unfold min2; split <;> omega
    refine ⟨by omega, fun y hy => ?_, ?_⟩
    · rcases List.mem_cons.mp hy with rfl | hy
      · omega
      · exact h2 y hy
    · rcases h3 with h3 | h3
      · rw [h3]; rcases hn.2.2 with e | e
        · exact .inl e
        · exact .inr (by rw [e]; simp)
      · exact .inr (by simp [h3])
theorem maxL_ok {ns : List Int} {m : Int} (h : maxL ns = some m) : 0 < ns.length ∧ m ∈ ns ∧ ∀ y ∈ ns, y ≤ m := by
  cases ns with
  | nil => cases h
  | cons n ns =>
    cases h
    obtain ⟨h1, h2, h3⟩ := fold_max ns n
    refine ⟨by simp, by rcases h3 with e | e <;> simp [e], fun y hy => ?_⟩
    rcases List.mem_cons.mp hy with rfl | hy
    · exact h1
    · exact h2 y hy
theorem minL_ok {ns : List Int} {m : Int} (h : minL ns = some m) : 0 < ns.length ∧ m ∈ ns ∧ ∀ y ∈ ns, m ≤ y := by
  cases ns with
  | nil => cases h
  | cons n ns =>
    cases h
    obtain ⟨h1, h2, h3⟩ := fold_min ns n
    refine ⟨by simp, by rcases h3 with e | e <;> simp [e], fun y hy => ?_⟩
    rcases List.mem_cons.mp hy with rfl | hy
    · exact h1
    · exact h2 y hy
def kMax1 (Γ : List Sl) : List AV → R AV
  | [x] => (R.ofO ((rdInts Γ x).bind maxL)).bind fun m => .val (.d true (.int m))
  | _ => .bad
def kMin1 (Γ : List Sl) : List AV → R AV
  | [x] => (R.ofO ((rdInts Γ x).bind minL)).bind fun m => .val (.d true (.int m))
  | _ => .bad
theorem ce_max1 (C : Cf X W sc N) (hg : glB sc "max" = true) (hm : X.mg "max" = none) (ha : CA X W [e] k) (he : starEach [e] X.env = (false, eval e X.env) :: starEach [] X.env := by rfl) : CE X W (.Call (.Name "max" p) [e] [] pos) (dB kMax1 k) :=
  ce_bB C kMax1 (cr_max C.calm) hg hm PyProof.Rows.boot_max ha (fun as Γ2 G H σ vs Q S h q => by
    unfold kMax1 at q
    split at q
    · rename_i x
      obtain ⟨v, rfl, hv⟩ := avs_one h
      rcases ofO_cases (o := (rdInts Γ2 x).bind maxL) (k := fun m => R.val (AV.d true (.int m))) with ⟨m, e1, e2⟩ | e2
      · rw [e2] at q
        cases hns : rdInts Γ2 x with
        | none => rw [hns] at e1; cases e1
        | some ns =>
          rw [hns] at e1
          obtain ⟨l, rfl, hs⟩ := rdInts_ok S hv hns
          obtain ⟨h0, h1, h2⟩ := maxL_ok e1
          refine ⟨l, ns, rfl, hs, h0, fun m' hm' hb => ?_⟩
          have : m' = m := Int.le_antisymm (h2 m' hm') (hb m h1)
          subst this
          exact Pk.v q S (.int _)
      · rw [e2] at q; exact q.elim
    · exact q.elim) (by decide +kernel) (by decide +kernel) he
theorem ce_min1 (C : Cf X W sc N) (hg : glB sc "min" = true) (hm : X.mg "min" = none) (ha : CA X W [e] k) (he : starEach [e] X.env = (false, eval e X.env) :: starEach [] X.env := by rfl) : CE X W (.Call (.Name "min" p) [e] [] pos) (dB kMin1 k) :=
  ce_bB C kMin1 (cr_min C.calm) hg hm (by decide +kernel) ha (fun as Γ2 G H σ vs Q S h q => by
    unfold kMin1 at q
    split at q
    · rename_i x
      obtain ⟨v, rfl, hv⟩ := avs_one h
      rcases ofO_cases (o := (rdInts Γ2 x).bind minL) (k := fun m => R.val (AV.d true (.int m))) with ⟨m, e1, e2⟩ | e2
      · rw [e2] at q
        cases hns : rdInts Γ2 x with
        | none => rw [hns] at e1; cases e1
        | some ns =>
          rw [hns] at e1
          obtain ⟨l, rfl, hs⟩ := rdInts_ok S hv hns
          obtain ⟨h0, h1, h2⟩ := minL_ok e1
          refine ⟨l, ns, rfl, hs, h0, fun m' hm' hb => ?_⟩
          have : m' = m := Int.le_antisymm (hb m h1) (h2 m' hm')
          subst this
          exact Pk.v q S (.int _)
      · rw [e2] at q; exact q.elim
    · exact q.elim) (by decide +kernel) (by decide +kernel) he
def rdBools (Γ : List Sl) (x : AV) : Option (List Bool) := match rdD Γ x with
  | some (.list ds) => boolsOf ds
  | _ => none
theorem rdBools_ok {G : Gh} {H : Hp} {σ : St} {Γ : List Sl} {x : AV} {v : V} {ns : List Bool} (S : Sta X.K G H σ Γ) (hv : AVok X.K G H σ v x) (h : rdBools Γ x = some ns) : ∃ l, v = .ref l ∧ SqL X.K H l (ns.map V.bl) := by
  unfold rdBools at h
  split at h
  · rename_i ds hd
    obtain ⟨l, xs, rfl, g1, g2⟩ := dn_list ((rdD_ok hd).ok S hv)
    rw [boolsOf_eq h] at g2
    rw [dna_bools g2] at g1
    exact ⟨l, rfl, g1.sq⟩
  · cases h
def kAll (Γ : List Sl) : List AV → R AV
  | [x] => (R.ofO (rdBools Γ x)).bind fun ns => .val (.d true (.bool (ns.all id)))
  | _ => .bad
def kAny (Γ : List Sl) : List AV → R AV
  | [x] => (R.ofO (rdBools Γ x)).bind fun ns => .val (.d true (.bool (ns.any id)))
  | _ => .bad
theorem ce_all (C : Cf X W sc N) (hg : glB sc "all" = true) (hm : X.mg "all" = none) (ha : CA X W [e] k) (he : starEach [e] X.env = (false, eval e X.env) :: starEach [] X.env := by rfl) : CE X W (.Call (.Name "all" p) [e] [] pos) (dB kAll k) :=
  ce_bB C kAll (cr_all C.calm) hg hm PyProof.Rows.boot_all ha (fun as Γ2 G H σ vs Q S h q => by
    unfold kAll at q
    split at q
    · rename_i x
      obtain ⟨v, rfl, hv⟩ := avs_one h
      rcases ofO_cases (o := rdBools Γ2 x) (k := fun ns => R.val (AV.d true (.bool (ns.all id)))) with ⟨ns, e1, e2⟩ | e2
      · rw [e2] at q
        obtain ⟨l, rfl, hs⟩ := rdBools_ok S hv e1
        exact ⟨l, ns, rfl, hs, Pk.v q S (.bl _)⟩
      · rw [e2] at q; exact q.elim
    · exact q.elim) (by decide +kernel) (by decide +kernel) he
theorem ce_any (C : Cf X W sc N) (hg : glB sc "any" = true) (hm : X.mg "any" = none) (ha : CA X W [e] k) (he : starEach [e] X.env = (false, eval e X.env) :: starEach [] X.env := by rfl) : CE X W (.Call (.Name "any" p) [e] [] pos) (dB kAny k) :=
  ce_bB C kAny (cr_any C.calm) hg hm (by decide +kernel) ha (fun as Γ2 G H σ vs Q S h q => by
    unfold kAny at q
    split at q
    · rename_i x
      obtain ⟨v, rfl, hv⟩ := avs_one h
      rcases ofO_cases (o := rdBools Γ2 x) (k := fun ns => R.val (AV.d true (.bool (ns.any id)))) with ⟨ns, e1, e2⟩ | e2
      · rw [e2] at q
        obtain ⟨l, rfl, hs⟩ := rdBools_ok S hv e1
        exact ⟨l, ns, rfl, hs, Pk.v q S (.bl _)⟩
      · rw [e2] at q; exact q.elim
    · exact q.elim) (by decide +kernel) (by decide +kernel) he
/-- int(x) -/
def kInt (_ : List Sl) : List AV → R AV
  | [.d _ (.int i)] => .val (.d true (.int i))
  | [.d _ (.bool z)] => .val (.d true (.int (b2n z)))
  | _ => .bad
theorem ce_intc (C : Cf X W sc N) (hg : glB sc "int" = true) (hm : X.mg "int" = none) (ha : CA X W [e] k) (he : starEach [e] X.env = (false, eval e X.env) :: starEach [] X.env := by rfl) : CE X W (.Call (.Name "int" p) [e] [] pos) (dB kInt k) :=
  ce_bT C kInt call_int1 hg hm PyProof.Rows.boot_int ha (fun as Γ2 G H σ vs Q S h q => by
    unfold kInt at q
    split at q
    · obtain ⟨v, rfl, hv⟩ := avs_one h
      exact .inl ⟨_, by rw [dn_int hv], Pk.v q S (.int _)⟩
    · obtain ⟨v, rfl, hv⟩ := avs_one h
      exact .inr ⟨_, by rw [dn_bool hv], Pk.v q S (.int _)⟩
    · exact q.elim) (by decide +kernel) (by decide +kernel) he
/-- the items of a list or tuple, and whether they are new -/
def rdSeq (Γ : List Sl) : AV → Option (List PyData × Bool)
  | .d fr (.list ds) => some (ds, fr)
  | .d fr (.tuple ds) => some (ds, fr)
  | .s i => match rdD Γ (.s i) with
    | some (.list ds) => some (ds, true)
    | _ => none
  | _ => none
theorem rdSeq_ok {G : Gh} {H : Hp} {σ : St} {Γ : List Sl} {x : AV} {v : V} {z : List PyData × Bool} (S : Sta X.K G H σ Γ) (hv : AVok X.K G H σ v x) (h : rdSeq Γ x = some z) : ∃ l xs, v = .ref l ∧ (SqL X.K H l xs ∨ SqT X.K H l xs) ∧ DnA X.K (rg G z.2) H xs z.1 := by
  unfold rdSeq at h
  split at h
  · cases h
    obtain ⟨l, xs, rfl, g1, g2⟩ := dn_list hv
    exact ⟨l, xs, rfl, .inl (g1.mono (S.w.rgl _)).sq, g2⟩
  · cases h
    obtain ⟨l, xs, rfl, g1, g2⟩ := dn_tuple hv
    exact ⟨l, xs, rfl, .inr g1, g2⟩
  · split at h
    · rename_i ds hd
      cases h
      obtain ⟨l, xs, rfl, g1, g2⟩ := S.slotL hd hv
      exact ⟨l, xs, rfl, .inl (SqL.of g1), g2⟩
    · cases h
  · cases h
def kTuple (Γ : List Sl) : List AV → R AV
  | [x] => (R.ofO (rdSeq Γ x)).bind fun z => .val (.d z.2 (.tuple z.1))
  | _ => .bad
theorem ce_tuple (C : Cf X W sc N) (hg : glB sc "tuple" = true) (hm : X.mg "tuple" = none) (ha : CA X W [e] k) (he : starEach [e] X.env = (false, eval e X.env) :: starEach [] X.env := by rfl) : CE X W (.Call (.Name "tuple" p) [e] [] pos) (dB kTuple k) :=
  ce_bT C kTuple call_tuple_of hg hm PyProof.Rows.boot_tuple ha (fun as Γ2 G H σ vs Q S h q => by
    unfold kTuple at q
    split at q
    · rename_i x
      obtain ⟨v, rfl, hv⟩ := avs_one h
      rcases ofO_cases (o := rdSeq Γ2 x) (k := fun z => R.val (AV.d z.2 (.tuple z.1))) with ⟨z, e1, e2⟩ | e2
      · rw [e2] at q
        obtain ⟨l, xs, rfl, hs, hd⟩ := rdSeq_ok S hv e1
        refine ⟨l, xs, rfl, hs.imp (fun hs => ⟨hs, fun l' hl => ?_⟩) fun hs => ⟨hs, Pk.v q S (.tup hs hd)⟩⟩
        obtain ⟨G2, S2, e2, h2⟩ := S.newTup hl hd
        exact Pk.v' q e2 S2 h2
      · rw [e2] at q; exact q.elim
    · exact q.elim) (by decide +kernel) (by decide +kernel) he
/-- list(x): what it holds is new or holds no list -/
def kList (Γ : List Sl) : List AV → R (List PyData)
  | [x] => (R.ofO (rdSeq Γ x)).bind fun z => gq (z.2 || flat.flatA z.1) z.1
  | _ => .bad
theorem cn_list (C : Cf X W sc N) (hg : glB sc "list" = true) (hm : X.mg "list" = none) (ha : CA X W [e] k) (he : starEach [e] X.env = (false, eval e X.env) :: starEach [] X.env := by rfl) : CN X W (.Call (.Name "list" p) [e] [] pos) (dBN kList k) :=
  cn_bT C kList call_list_of hg hm PyProof.Rows.boot_list ha (fun as Γ2 G H σ vs Q S h q => by
    unfold kList at q
    split at q
    · rename_i x
      obtain ⟨v, rfl, hv⟩ := avs_one h
      rcases ofO_cases (o := rdSeq Γ2 x) (k := fun z => gq (z.2 || flat.flatA z.1) z.1) with ⟨z, e1, e2⟩ | e2
      · rw [e2] at q
        obtain ⟨l, xs, rfl, hs, hd⟩ := rdSeq_ok S hv e1
        rcases gq_cases (z.2 || flat.flatA z.1) z.1 with e | ⟨hc, e⟩
        · rw [e] at q; exact q.elim
        · rw [e] at q
          refine ⟨l, xs, rfl, hs, fun l' hl => Pn.v q S hl ?_⟩
          obtain ⟨ds, fr⟩ := z
          cases fr with
          | true => exact hd
          | false => exact hd.free (by simpa using hc)
      · rw [e2] at q; exact q.elim
    · exact q.elim) (by decide +kernel) (by decide +kernel) he
/-- sorted(ints) -/
def kSorted (Γ : List Sl) : List AV → R (List PyData)
  | [x] => (R.ofO (rdInts Γ x)).bind fun ns => .val ((sortI ns).map PyData.int)
  | _ => .bad
theorem cn_sorted (C : Cf X W sc N) (hg : glB sc "sorted" = true) (hm : X.mg "sorted" = none) (ha : CA X W [e] k) (he : starEach [e] X.env = (false, eval e X.env) :: starEach [] X.env := by rfl) : CN X W (.Call (.Name "sorted" p) [e] [] pos) (dBN kSorted k) :=
  cn_bB C kSorted cr_sortedI hg hm PyProof.Rows.boot_sorted ha (fun as Γ2 G H σ vs Q S h q => by
    unfold kSorted at q
    split at q
    · rename_i x
      obtain ⟨v, rfl, hv⟩ := avs_one h
      rcases ofO_cases (o := rdInts Γ2 x) (k := fun ns => R.val ((sortI ns).map PyData.int)) with ⟨ns, e1, e2⟩ | e2
      · rw [e2] at q
        obtain ⟨l, rfl, hs⟩ := rdInts_ok S hv e1
        refine ⟨l, ns, rfl, hs, fun ns' p' hp hs' hp' => ?_⟩
        rw [sortI_unique hp hs']
        exact Pn.v q S hp' (ints_dna _)
      · rw [e2] at q; exact q.elim
    · exact q.elim) (by decide +kernel) (by decide +kernel) he
/-- sorted(set(ints)) -/
def kSset (Γ : List Sl) (x : AV) : R (List PyData) := match rdSeq Γ x with
  | some z => (R.ofO (intsOf z.1)).bind fun ns => gq (lt64 ns) ((setI ns).map PyData.int)
  | none => .bad
def dSset (f : DF) : DN := fun Γ => (f Γ).bind fun z => (kSset z.2 z.1).bind fun y => .val (y, z.2)
theorem cn_sset (C : Cf X W sc N) {p2 q2 : Pos} (hg : glB sc "sorted" = true) (hm : X.mg "sorted" = none) (hg2 : glB sc "set" = true) (hm2 : X.mg "set" = none) (ha : CE X W a f) (na : starEach [a] X.env = (false, eval a X.env) :: starEach [] X.env := by rfl) : CN X W (.Call (.Name "sorted" p) [.Call (.Name "set" p2) [a] [] q2] [] pos) (dSset f) := fun Γ =>
  pe_imp (pe_sset C.calm (C.gl hg) hm (C.gl hg2) hm2 (ha Γ) na) fun σ H Q ⟨G, S, q⟩ => ⟨G, S, (Pst.bind q).imp fun x G1 H1 e1 p1 v S1 hv => by
    unfold kSset at p1
    split at p1
    · rename_i z hz
      obtain ⟨l, xs, rfl, hs, hd⟩ := rdSeq_ok S1 hv hz
      cases hi : intsOf z.1 with
      | none => rw [hi] at p1; exact p1.elim
      | some ns =>
        rw [hi] at p1
        rcases gq_cases (lt64 ns) ((setI ns).map PyData.int) with e | ⟨hc, e⟩
        · have p1 : Pst X W G1 H1 σ ((gq (lt64 ns) ((setI ns).map PyData.int)).bind fun y => .val (y, x.2)) _ := p1
          rw [e] at p1; exact p1.elim
        · have p1 : Pst X W G1 H1 σ ((gq (lt64 ns) ((setI ns).map PyData.int)).bind fun y => .val (y, x.2)) _ := p1
          rw [e] at p1
          rw [intsOf_eq hi] at hd
          rw [dna_ints hd] at hs
          exact ⟨l, ns, rfl, hs, of_decide_eq_true hc, fun q hq => p1 G1 H1 (Ext.rf S1.w) q _ S1 hq (ints_dna _)⟩
    · exact p1.elim⟩
/-! ## isinstance -/
inductive Tn where
  | int | bool | str | list | tuple | dict
def Tn.nm : Tn → String
  | .int => "int"
  | .bool => "bool"
  | .str => "str"
  | .list => "list"
  | .tuple => "tuple"
  | .dict => "dict"
def tyIs : PyData → Tn → Bool
  | .bool _, .int => true
  | .bool _, .bool => true
  | .int _, .int => true
  | .str _, .str => true
  | .list _, .list => true
  | .tuple _, .tuple => true
  | .dict _, .dict => true
  | _, _ => false
theorem tyIs_kit (d : PyData) (t : Tn) : kitB (pyTy d) t.nm = some (tyIs d t) := by
  cases d <;> cases t <;> simp only [pyTy, Tn.nm, tyIs] <;> decide +kernel
def dIsi (ts : List Tn) (f : DF) : DF := fun Γ => (f Γ).bind fun x => match rdD x.2 x.1 with
  | some d => .val (.d true (.bool (ts.any fun t => tyIs d t)), x.2)
  | none => .bad
theorem ce_isi (C : Cf X W sc N) (t : Tn) {T : Str} {p2 : Pos} (hg : glB sc "isinstance" = true) (hm : X.mg "isinstance" = none) (hgT : glB sc T = true) (hmT : X.mg T = none) (hv : bootBuiltins T = some (.type t.nm)) (ha : CE X W e f)
    (hnT : T ≠ "__name__" := by decide +kernel) (hdT : (T == ("__debug__" : Str)) = false := by decide +kernel) (hst : starEach [e, .Name T p2] X.env = (false, eval e X.env) :: starEach [.Name T p2] X.env := by rfl) (hst2 : starEach [.Name T p2] X.env = (false, eval (.Name T p2) X.env) :: starEach [] X.env := by rfl) :
    CE X W (.Call (.Name "isinstance" p) [e, .Name T p2] [] pos) (dIsi [t] f) := fun Γ => by
  have hT : PE X (.Name T p2) (tC (.ty t.nm)) := pe_bltn (C.gl hgT) hmT hv rfl hnT hdT
  refine pe_imp (pe_callB call_isi (C.gl hg) hm PyProof.Rows.boot_isinstance (pa_cons (ha Γ) (pa_cons hT pa_nil hst2) hst) (by decide +kernel) (by decide +kernel) hst (by rw [hst2]; rfl)) fun σ H Q ⟨G, S, q⟩ => ⟨G, S, (Pst.bind q).imp fun x G1 H1 e1 p1 v S1 hv => ?_⟩
  split at p1
  · rename_i d hd
    refine ⟨v, .ty t.nm, .type (pyTy d), .type t.nm, tyIs d t, rfl, .ty t.nm, dn_ty ((rdD_ok hd).ok S1 hv), kit_ty (tyIs_kit d t), ?_⟩
    have := p1 G1 H1 (Ext.rf S1.w) (.bl (tyIs d t)) S1 (by show Dn _ _ _ _ (.bool (tyIs d t || false)); rw [Bool.or_false]; exact .bl _)
    exact this
  · exact p1.elim
end
end PD


set_option Elab.async false
set_option linter.all false
set_option maxRecDepth 100000
set_option maxHeartbeats 4000000
set_option autoImplicit false
namespace PD
open PySem L2
/-! ## forms with two operands: what they do to data -/
section
variable (X : Cx) (W : WX)
/-- what is wanted when an answer of data comes -/
def Pz {ρ : Type} (enc : ρ → PyData) (G : Gh) (H : Hp) (σ : St) (Γ : List Sl) (o : Option ρ) (Q : VK) : Prop :=
  ∃ z, o = some z ∧ ∀ G' H', Ext G H G' H' → ∀ w, Sta X.K G' H' σ Γ → Dn X.K (rg G' true) H' w (enc z) → Q w H'
def Sem2 (a b e : Expr) {ρ : Type} (enc : ρ → PyData) (dop : PyData → PyData → Option ρ) : Prop :=
  ∀ {Γ : List Sl} {α β γ : Type} {ma : R α} {ava : α → AV} {Γa : α → List Sl} {mb : α → R β} {avb : α → β → AV} {Γb : α → β → List Sl} {d1 d2 : α → β → PyData} (kk : α → β → ρ → γ) (val : γ → ρ) (Γk : γ → List Sl),
    Ev X W Γ a ma ava Γa → (∀ x, Ev X W (Γa x) b (mb x) (avb x) (Γb x)) → (∀ x y, Rdb (Γb x y) (ava x) (d1 x y)) → (∀ x y, Rdb (Γb x y) (avb x y) (d2 x y)) → (∀ x y z, val (kk x y z) = z) → (∀ x y z, Γk (kk x y z) = Γb x y) →
    Ev X W Γ e (ma.bind fun x => (mb x).bind fun y => (R.ofO (dop (d1 x y) (d2 x y))).bind fun z => .val (kk x y z)) (fun q => .d true (enc (val q))) Γk
end
section
variable {X : Cx} {W : WX} {sc : Scope} {N : List Str} {a b c e : Expr} {es : List Expr} {pos p : Pos} {Γ : List Sl}
theorem Pz.of {ρ γ : Type} {enc : ρ → PyData} {G : Gh} {H : Hp} {σ : St} {o : Option ρ} {k : ρ → γ} {val : γ → ρ} {Γk : γ → List Sl} {Q : VK} (h : Pst X W G H σ ((R.ofO o).bind fun z => .val (k z)) (fun q G' H' => ∀ w, Sta X.K G' H' σ (Γk q) → AVok X.K G' H' σ w (.d true (enc (val q))) → Q w H')) (h1 : ∀ z, val (k z) = z) (h2 : ∀ z, Γk (k z) = Γ) : Pz X enc G H σ Γ o Q := by
  cases o with
  | none => exact h.elim
  | some z =>
    refine ⟨z, rfl, fun G' H' e w S hw => ?_⟩
    have := h G' H' e w (by rw [h2]; exact S) (by rw [h1]; exact hw)
    exact this
theorem sem2_of {ρ : Type} {enc : ρ → PyData} {dop : PyData → PyData → Option ρ} {r : R2} (hpe : ∀ {ta tb : TE}, PE X a ta → PE X b tb → PE X e (tOp r ta tb))
    (hk : ∀ G H σ Γ u v p q Q, Sta X.K G H σ Γ → Dn X.K (RgH H) H u p → Dn X.K (RgH H) H v q → Pz X enc G H σ Γ (dop p q) Q → r u v H Q) : Sem2 X W a b e enc dop := by
  intro Γ α β γ ma ava Γa mb avb Γb d1 d2 kk val Γk ha hb r1 r2 h1 h2
  exact pe_imp (hpe ha (pe_any fun x => hb x)) fun σ H Q h => bin_rd (X := X) (W := W) (ava := ava) (Γa := Γa) (avb := avb) (Γb := Γb) (k := fun x y => (R.ofO (dop (d1 x y) (d2 x y))).bind fun z => .val (kk x y z)) (fun x y G H σ u v Q S hu hv p => hk G H σ (Γb x y) u v _ _ Q S ((r1 x y).ok S hu) ((r2 x y).ok S hv) (Pz.of p (h1 x y) (h2 x y))) h
theorem Sem2.pu {ρ : Type} {enc : ρ → PyData} {dop : PyData → PyData → Option ρ} (h : Sem2 X W a b e enc dop) {A1 A2 : AV} {x y : PyData} {z : ρ} (hz : dop x y = some z) (ha : EvP X W Γ a A1) (hb : EvP X W Γ b A2) (r1 : Rdb Γ A1 x) (r2 : Rdb Γ A2 y) : EvP X W Γ e (.d true (enc z)) := by
  have := h (Γ := Γ) (fun (_ : Unit) (_ : Unit) z => z) (fun z => z) (fun _ => Γ) ha (fun _ => hb) (fun _ _ => r1) (fun _ _ => r2) (fun _ _ _ => rfl) (fun _ _ _ => rfl)
  have this : Ev X W Γ e ((R.ofO (dop x y)).bind fun z => .val z) (fun q => .d true (enc q)) (fun _ => Γ) := this
  rw [hz] at this
  exact pe_imp this fun σ H Q ⟨G, S, q⟩ => ⟨G, S, q⟩
/-- the same, all in one -/
theorem Sem2.m {ρ α β γ : Type} {enc : ρ → PyData} {dop : PyData → PyData → Option ρ} (h : Sem2 X W a b e enc dop) {ma : R α} {ava : α → AV} {Γa : α → List Sl} {mb : α → R β} {avb : α → β → AV} {Γb : α → β → List Sl} {d1 d2 : α → β → PyData} (ha : Ev X W Γ a ma ava Γa) (hb : ∀ x, Ev X W (Γa x) b (mb x) (avb x) (Γb x)) (r1 : ∀ x y, Rdb (Γb x y) (ava x) (d1 x y)) (r2 : ∀ x y, Rdb (Γb x y) (avb x y) (d2 x y))
    (kk : α → β → ρ → γ) (val : γ → ρ) (Γk : γ → List Sl) (h1 : ∀ x y z, val (kk x y z) = z := by intros; rfl) (h2 : ∀ x y z, Γk (kk x y z) = Γb x y := by intros; rfl) :
    Ev X W Γ e (ma.bind fun x => (mb x).bind fun y => (R.ofO (dop (d1 x y) (d2 x y))).bind fun z => .val (kk x y z)) (fun q => .d true (enc (val q))) Γk := h kk val Γk ha hb r1 r2 h1 h2
/-! ### numbers -/
def opI (c : Int → Int → Bool) (h : Int → Int → Int) : PyData → PyData → Option PyData
  | .int i, .int j => if c i j then some (.int (h i j)) else none
  | _, _ => none
abbrev idD (z : PyData) : PyData := z
theorem Pz.v {ρ : Type} {enc : ρ → PyData} {G : Gh} {H : Hp} {σ : St} {Γ : List Sl} {z : ρ} {Q : VK} (h : Pz X enc G H σ Γ (some z) Q) (S : Sta X.K G H σ Γ) {w : V} (hw : Dn X.K (rg G true) H w (enc z)) : Q w H := by
  obtain ⟨_, e, k⟩ := h
  cases e
  exact k G H (Ext.rf S.w) w S hw
theorem Pz.v' {ρ : Type} {enc : ρ → PyData} {G G' : Gh} {H H' : Hp} {σ : St} {Γ : List Sl} {z : ρ} {Q : VK} (h : Pz X enc G H σ Γ (some z) Q) (e : Ext G H G' H') (S : Sta X.K G' H' σ Γ) {w : V} (hw : Dn X.K (rg G' true) H' w (enc z)) : Q w H' := by
  obtain ⟨_, e', k⟩ := h
  cases e'
  exact k G' H' e w S hw
theorem Pz.no {ρ : Type} {enc : ρ → PyData} {G : Gh} {H : Hp} {σ : St} {Γ : List Sl} {Q : VK} (h : Pz X enc G H σ Γ (none : Option ρ) Q) : False := by
  obtain ⟨_, e, _⟩ := h
  cases e
theorem s2_int {op : Operator} {c : Int → Int → Bool} {h : Int → Int → Int} {P : Int → Int → Prop} (ho : OpR X (binaryOp op) (rI P fun i j => .int (h i j))) (hc : ∀ i j, c i j = true → P i j) : Sem2 X W a b (.BinOp a op b pos) idD (opI c h) :=
  sem2_of (fun ha hb => pe_op ho ha hb) fun G H σ Γ u v p q Q S hu hv k => by
    unfold opI at k
    split at k
    · rename_i i j
      split at k
      · rename_i hcc
        exact ⟨i, j, dn_int hu, dn_int hv, hc i j hcc, k.v S (.int _)⟩
      · exact k.no.elim
    · exact k.no.elim
abbrev cT (_ _ : Int) : Bool := true
abbrev subD := opI cT fun i j => i - j
abbrev andD := opI cT fun i j => Builtin.bitAnd i j
abbrev orD := opI cT fun i j => Builtin.bitOr i j
abbrev mulD := opI cMulX fun i j => i * j
abbrev divD := opI cDiv fun i j => i / j
abbrev modD := opI cMod fun i j => i % j
abbrev powD := opI cPow fun i j => i ^ j.toNat
abbrev shlD := opI cShl fun i j => i * 2 ^ j.toNat
abbrev shrD := opI cShr fun i j => i / 2 ^ j.toNat
theorem s2_sub : Sem2 X W a b (.BinOp a .Sub b pos) idD subD := s2_int (opI_of op_sub) fun _ _ _ => trivial
theorem s2_and : Sem2 X W a b (.BinOp a .BitAnd b pos) idD andD := s2_int (opI_of op_and) fun _ _ _ => trivial
theorem s2_or : Sem2 X W a b (.BinOp a .BitOr b pos) idD orD := s2_int (opI_of op_or) fun _ _ _ => trivial
theorem s2_mul : Sem2 X W a b (.BinOp a .Mult b pos) idD mulD := s2_int op_mulG fun _ _ h => h
theorem s2_div : Sem2 X W a b (.BinOp a .FloorDiv b pos) idD divD := s2_int op_fdivW cDiv_ok
theorem s2_mod : Sem2 X W a b (.BinOp a .Mod b pos) idD modD := s2_int op_mod cMod_ok
theorem s2_pow : Sem2 X W a b (.BinOp a .Pow b pos) idD powD := s2_int op_pow cPow_ok
theorem s2_shl : Sem2 X W a b (.BinOp a .LShift b pos) idD shlD := s2_int op_shlW cShl_ok
theorem s2_shr : Sem2 X W a b (.BinOp a .RShift b pos) idD shrD := s2_int op_shr cShr_ok
/-- a + b: numbers, tuples without lists, texts -/
def addD : PyData → PyData → Option PyData
  | .int i, .int j => some (.int (i + j))
  | .tuple xs, .tuple ys => if szB (xs ++ ys) && flat.flatA xs && flat.flatA ys then some (.tuple (xs ++ ys)) else none
  | .str x, .str y => if decide (x.length + y.length ≤ sizeLine) then some (.str (x ++ y)) else none
  | _, _ => none
theorem s2_add : Sem2 X W a b (.BinOp a .Add b pos) idD addD :=
  sem2_of (fun ha hb => pe_op (opR_or op_add (opR_or op_catA op_add_str)) ha hb) fun G H σ Γ u v p q Q S hu hv k => by
    unfold addD at k
    split at k
    · rename_i i j
      exact .inl ⟨i, j, dn_int hu, dn_int hv, k.v S (.int _)⟩
    · rename_i xs ys
      split at k
      · rename_i hc
        simp only [Bool.and_eq_true] at hc
        obtain ⟨⟨hc, f1⟩, f2⟩ := hc
        have hc := of_decide_eq_true hc
        obtain ⟨q1, vs, rfl, g1, g2⟩ := dn_tuple hu
        obtain ⟨q2, ws, rfl, g3, g4⟩ := dn_tuple hv
        have d1 : DnA X.K (rg G true) H vs xs := g2.free f1
        have d2 : DnA X.K (rg G true) H ws ys := g4.free f2
        refine .inr (.inl ⟨q1, q2, vs, ws, rfl, rfl, g1, g3, by rw [g2.length, g4.length]; simpa using hc, fun e1 => ?_, fun _ e2 => ?_, fun _ _ l hl => ?_⟩)
        · subst e1
          cases d1
          exact k.v S (.tup g3 d2)
        · subst e2
          cases d2
          refine k.v S ?_
          show Dn _ _ _ _ (.tuple (xs ++ []))
          rw [List.append_nil]
          exact .tup g1 d1
        · obtain ⟨G2, S2, e2, h2⟩ := S.newTup hl (d1.append d2)
          exact k.v' e2 S2 h2
      · exact k.no.elim
    · rename_i x y
      split at k
      · rename_i hc
        exact .inr (.inr ⟨x, y, dn_str hu, dn_str hv, of_decide_eq_true hc, k.v S (.str _)⟩)
      · exact k.no.elim
    · exact k.no.elim
/-! ### comparisons -/
theorem s2_cmp {op : CmpOp} {r : R2} {dop : PyData → PyData → Option Bool} (ho : OpR X (compareOp op) r) (hm : behindInMarks op b = false)
    (hk : ∀ G H σ Γ u v p q Q, Sta X.K G H σ Γ → Dn X.K (RgH H) H u p → Dn X.K (RgH H) H v q → Pz X PyData.bool G H σ Γ (dop p q) Q → r u v H Q) : Sem2 X W a b (.Compare a [op] [b] pos) PyData.bool dop :=
  sem2_of (fun ha hb => pe_cmpR ho ha hb hm) hk
def eqD (p q : PyData) : Option Bool := if SeqAt.shaped p && SeqAt.shaped q then some (PyData.eqv p q) else none
def neD (p q : PyData) : Option Bool := if SeqAt.shaped p && SeqAt.shaped q then some (!PyData.eqv p q) else none
theorem s2_eq (C : Cf X W sc N) (hm : behindInMarks .Eq b = false := by first | exact nobehind _ (by decide) (by decide) | rfl) : Sem2 X W a b (.Compare a [.Eq] [b] pos) PyData.bool eqD :=
  s2_cmp (op_eqD C.hu) hm fun G H σ Γ u v p q Q S hu hv k => by
    unfold eqD at k
    split at k
    · rename_i hc
      rw [Bool.and_eq_true] at hc
      exact ⟨p, q, hu.dp, hv.dp, hc.1, hc.2, k.v S (.bl _)⟩
    · exact k.no.elim
theorem s2_ne (C : Cf X W sc N) (hm : behindInMarks .NotEq b = false := by first | exact nobehind _ (by decide) (by decide) | rfl) : Sem2 X W a b (.Compare a [.NotEq] [b] pos) PyData.bool neD :=
  s2_cmp (op_neD C.hu) hm fun G H σ Γ u v p q Q S hu hv k => by
    unfold neD at k
    split at k
    · rename_i hc
      rw [Bool.and_eq_true] at hc
      exact ⟨p, q, hu.dp, hv.dp, hc.1, hc.2, k.v S (.bl _)⟩
    · exact k.no.elim
def cmI (h : Int → Int → Bool) : PyData → PyData → Option Bool
  | .int i, .int j => some (h i j)
  | _, _ => none
theorem s2_cmI {op : CmpOp} {h : Int → Int → Bool} (ho : OpR X (compareOp op) (rI0 fun i j => .bl (h i j))) (hm : behindInMarks op b = false) : Sem2 X W a b (.Compare a [op] [b] pos) PyData.bool (cmI h) :=
  s2_cmp ho hm fun G H σ Γ u v p q Q S hu hv k => by
    unfold cmI at k
    split at k
    · rename_i i j
      exact ⟨i, j, dn_int hu, dn_int hv, k.v S (.bl _)⟩
    · exact k.no.elim
abbrev ltD := cmI fun i j => decide (i < j)
abbrev leD := cmI fun i j => decide (i ≤ j)
abbrev gtD := cmI fun i j => decide (j < i)
abbrev geD := cmI fun i j => decide (j ≤ i)
theorem s2_lt (hm : behindInMarks .Lt b = false := by first | exact nobehind _ (by decide) (by decide) | rfl) : Sem2 X W a b (.Compare a [.Lt] [b] pos) PyData.bool ltD := s2_cmI op_lt hm
theorem s2_le (hm : behindInMarks .LtE b = false := by first | exact nobehind _ (by decide) (by decide) | rfl) : Sem2 X W a b (.Compare a [.LtE] [b] pos) PyData.bool leD := s2_cmI op_le hm
theorem s2_gt (hm : behindInMarks .Gt b = false := by first | exact nobehind _ (by decide) (by decide) | rfl) : Sem2 X W a b (.Compare a [.Gt] [b] pos) PyData.bool gtD := s2_cmI op_gt hm
theorem s2_ge (hm : behindInMarks .GtE b = false := by first | exact nobehind _ (by decide) (by decide) | rfl) : Sem2 X W a b (.Compare a [.GtE] [b] pos) PyData.bool geD := s2_cmI op_ge hm
def isND (p : PyData) : PyData → Option Bool
  | .none => some (isN p)
  | _ => none
def notND (p : PyData) : PyData → Option Bool
  | .none => some (!isN p)
  | _ => none
theorem s2_is (hm : behindInMarks .Is b = false := by first | exact nobehind _ (by decide) (by decide) | rfl) : Sem2 X W a b (.Compare a [.Is] [b] pos) PyData.bool isND :=
  s2_cmp op_isN hm fun G H σ Γ u v p q Q S hu hv k => by
    unfold isND at k
    split at k
    · refine ⟨dn_none hv, ?_⟩
      rw [dn_isN hu]
      exact k.v S (.bl _)
    · exact k.no.elim
theorem s2_isnot (hm : behindInMarks .IsNot b = false := by first | exact nobehind _ (by decide) (by decide) | rfl) : Sem2 X W a b (.Compare a [.IsNot] [b] pos) PyData.bool notND :=
  s2_cmp op_notN hm fun G H σ Γ u v p q Q S hu hv k => by
    unfold notND at k
    split at k
    · refine ⟨dn_none hv, ?_⟩
      rw [dn_isN hu]
      exact k.v S (.bl _)
    · exact k.no.elim
/-- x in y: a list of data, a tuple of flat data -/
def inB (x : PyData) : PyData → Option Bool
  | .list ds => if SeqAt.shaped x && SeqAt.shaped (.list ds) then some (ds.any fun z => PyData.eqv z x) else none
  | .tuple ds => if flD x && ds.all flD then some (ds.any fun z => PyData.eqv z x) else none
  | _ => none
def ninB (x y : PyData) : Option Bool := (inB x y).map (!·)
theorem inB_cases {G : Gh} {H : Hp} {σ : St} {u v : V} {p q : PyData} (hu : Dn X.K (RgH H) H u p) (hv : Dn X.K (RgH H) H v q) : inB p q = none ∨ ∃ z, inB p q = some z ∧
    ((∃ d ds, Dp X.K H u d ∧ Dp X.K H v (.list ds) ∧ SeqAt.shaped d = true ∧ SeqAt.shaped (.list ds) = true ∧ z = ds.any fun z => PyData.eqv z d) ∨
     (∃ p xs, v = .ref p ∧ SqT X.K H p xs ∧ flatV u = true ∧ xs.all flatV = true ∧ z = inV u xs)) := by
  unfold inB
  split
  · rename_i ds
    split
    · rename_i hc
      rw [Bool.and_eq_true] at hc
      exact .inr ⟨_, rfl, .inl ⟨p, ds, hu.dp, hv.dp, hc.1, hc.2, rfl⟩⟩
    · exact .inl rfl
  · rename_i ds
    split
    · rename_i hc
      rw [Bool.and_eq_true] at hc
      obtain ⟨a, xs, rfl, g1, g2⟩ := dn_tuple hv
      obtain ⟨q1, q2⟩ := inV_ok hu hc.1 g2 hc.2
      exact .inr ⟨_, rfl, .inr ⟨a, xs, rfl, g1, flD_ok hu hc.1, q1, q2.symm⟩⟩
    · exact .inl rfl
  · exact .inl rfl
theorem s2_in (hu65 : X.A.units + 65 < cLine) (hm : behindInMarks .In b = false := by rfl) : Sem2 X W a b (.Compare a [.In] [b] pos) PyData.bool inB :=
  s2_cmp (opR_or (op_inD hu65) op_in_seq) hm fun G H σ Γ u v p q Q S hu hv k => by
    rcases inB_cases (G := G) (σ := σ) hu hv with e | ⟨z, e, ⟨d, ds, h1, h2, h3, h4, rfl⟩ | ⟨l, xs, rfl, h1, h2, h3, rfl⟩⟩
    · rw [e] at k; exact k.no.elim
    · rw [e] at k; exact .inl ⟨d, ds, h1, h2, h3, h4, k.v S (.bl _)⟩
    · rw [e] at k; exact .inr ⟨l, xs, rfl, .inr h1, h2, h3, k.v S (.bl _)⟩
theorem s2_notin (hu65 : X.A.units + 65 < cLine) (hm : behindInMarks .NotIn b = false := by rfl) : Sem2 X W a b (.Compare a [.NotIn] [b] pos) PyData.bool ninB :=
  s2_cmp (opR_or (op_notInD hu65) op_notIn_seq) hm fun G H σ Γ u v p q Q S hu hv k => by
    unfold ninB at k
    rcases inB_cases (G := G) (σ := σ) hu hv with e | ⟨z, e, ⟨d, ds, h1, h2, h3, h4, rfl⟩ | ⟨l, xs, rfl, h1, h2, h3, rfl⟩⟩
    · rw [e] at k; exact k.no.elim
    · rw [e] at k; exact .inl ⟨d, ds, h1, h2, h3, h4, k.v S (.bl _)⟩
    · rw [e] at k; exact .inr ⟨l, xs, rfl, .inr h1, h2, h3, k.v S (.bl _)⟩
end
end PD


set_option Elab.async false
set_option linter.all false
set_option maxRecDepth 100000
set_option maxHeartbeats 4000000
set_option autoImplicit false
namespace PD
open PySem L2
section
variable (X : Cx) (W : WX)
/-- forms with arguments -/
def SemA (es : List Expr) (e : Expr) {ρ : Type} (enc : ρ → PyData) (dop : List PyData → Option ρ) : Prop :=
  ∀ {Γ : List Sl} {α γ : Type} {ma : R α} {as : α → List AV} {Γ1 : α → List Sl} {ds : α → List PyData} (kk : α → ρ → γ) (val : γ → ρ) (Γk : γ → List Sl),
    EvA X W Γ es ma as Γ1 → (∀ r, ArD (Γ1 r) (as r) (ds r)) → (∀ r z, val (kk r z) = z) → (∀ r z, Γk (kk r z) = Γ1 r) →
    Ev X W Γ e (ma.bind fun r => (R.ofO (dop (ds r))).bind fun z => .val (kk r z)) (fun q => .d true (enc (val q))) Γk
/-- such that give a new list -/
def SemN (es : List Expr) (e : Expr) (dop : List PyData → Option (List PyData)) : Prop :=
  ∀ {Γ : List Sl} {α γ : Type} {ma : R α} {as : α → List AV} {Γ1 : α → List Sl} {ds : α → List PyData} (kk : α → List PyData → γ) (val : γ → List PyData) (Γk : γ → List Sl),
    EvA X W Γ es ma as Γ1 → (∀ r, ArD (Γ1 r) (as r) (ds r)) → (∀ r z, val (kk r z) = z) → (∀ r z, Γk (kk r z) = Γ1 r) →
    EvF X W Γ e (ma.bind fun r => (R.ofO (dop (ds r))).bind fun z => .val (kk r z)) val Γk
def Pl (G : Gh) (H : Hp) (σ : St) (Γ : List Sl) (o : Option (List PyData)) (Q : VK) : Prop :=
  ∃ z, o = some z ∧ ∀ G' H', Ext G H G' H' → ∀ q ws, Sta X.K G' H' σ Γ → H' q = none → DnA X.K (rg G' true) H' ws z → Q (.ref q) (upd H' q (.lst ws))
end
section
variable {X : Cx} {W : WX} {sc : Scope} {N : List Str} {a b c e : Expr} {es : List Expr} {pos p : Pos} {Γ : List Sl}
theorem Pl.of {γ : Type} {G : Gh} {H : Hp} {σ : St} {o : Option (List PyData)} {k : List PyData → γ} {val : γ → List PyData} {Γk : γ → List Sl} {Q : VK} (h : Pst X W G H σ ((R.ofO o).bind fun z => .val (k z)) (fun z G' H' => ∀ q ws, Sta X.K G' H' σ (Γk z) → H' q = none → DnA X.K (rg G' true) H' ws (val z) → Q (.ref q) (upd H' q (.lst ws)))) (h1 : ∀ z, val (k z) = z) (h2 : ∀ z, Γk (k z) = Γ) : Pl X G H σ Γ o Q := by
  cases o with
  | none => exact h.elim
  | some z =>
    refine ⟨z, rfl, fun G' H' e q ws S hq hd => ?_⟩
    exact h G' H' e q ws (by rw [h2]; exact S) hq (by rw [h1]; exact hd)
theorem Pl.v {G : Gh} {H : Hp} {σ : St} {Γ : List Sl} {z : List PyData} {Q : VK} (h : Pl X G H σ Γ (some z) Q) (S : Sta X.K G H σ Γ) {q : Addr} {ws : List V} (hq : H q = none) (hd : DnA X.K (rg G true) H ws z) : Q (.ref q) (upd H q (.lst ws)) := by
  obtain ⟨_, e, k⟩ := h
  cases e
  exact k G H (Ext.rf S.w) q ws S hq hd
theorem Pl.no {G : Gh} {H : Hp} {σ : St} {Γ : List Sl} {Q : VK} (h : Pl X G H σ Γ none Q) : False := by
  obtain ⟨_, e, _⟩ := h
  cases e
theorem SemA.pu {ρ : Type} {enc : ρ → PyData} {dop : List PyData → Option ρ} (h : SemA X W es e enc dop) {as : List AV} {ds : List PyData} {z : ρ} (hz : dop ds = some z) (ha : EvAP X W Γ es as) (r1 : ArD Γ as ds) : EvP X W Γ e (.d true (enc z)) := by
  have := h (Γ := Γ) (fun (_ : Unit) z => z) (fun z => z) (fun _ => Γ) ha (fun _ => r1) (fun _ _ => rfl) (fun _ _ => rfl)
  have this : Ev X W Γ e ((R.ofO (dop ds)).bind fun z => .val z) (fun q => .d true (enc q)) (fun _ => Γ) := this
  rw [hz] at this
  exact pe_imp this fun σ H Q ⟨G, S, q⟩ => ⟨G, S, q⟩
theorem SemA.m {ρ α γ : Type} {enc : ρ → PyData} {dop : List PyData → Option ρ} (h : SemA X W es e enc dop) {ma : R α} {as : α → List AV} {Γ1 : α → List Sl} {ds : α → List PyData} (ha : EvA X W Γ es ma as Γ1) (r1 : ∀ r, ArD (Γ1 r) (as r) (ds r)) (kk : α → ρ → γ) (val : γ → ρ) (Γk : γ → List Sl) (h1 : ∀ r z, val (kk r z) = z := by intros; rfl) (h2 : ∀ r z, Γk (kk r z) = Γ1 r := by intros; rfl) :
    Ev X W Γ e (ma.bind fun r => (R.ofO (dop (ds r))).bind fun z => .val (kk r z)) (fun q => .d true (enc (val q))) Γk := h kk val Γk ha r1 h1 h2
theorem SemN.pu {dop : List PyData → Option (List PyData)} (h : SemN X W es e dop) {as : List AV} {ds z : List PyData} (hz : dop ds = some z) (ha : EvAP X W Γ es as) (r1 : ArD Γ as ds) : EvFP X W Γ e z := by
  have := h (Γ := Γ) (fun (_ : Unit) z => z) (fun z => z) (fun _ => Γ) ha (fun _ => r1) (fun _ _ => rfl) (fun _ _ => rfl)
  have this : EvF X W Γ e ((R.ofO (dop ds)).bind fun z => .val z) (fun q => q) (fun _ => Γ) := this
  rw [hz] at this
  exact pe_imp this fun σ H Q ⟨G, S, q⟩ => ⟨G, S, q⟩
theorem SemN.m {α γ : Type} {dop : List PyData → Option (List PyData)} (h : SemN X W es e dop) {ma : R α} {as : α → List AV} {Γ1 : α → List Sl} {ds : α → List PyData} (ha : EvA X W Γ es ma as Γ1) (r1 : ∀ r, ArD (Γ1 r) (as r) (ds r)) (kk : α → List PyData → γ) (val : γ → List PyData) (Γk : γ → List Sl) (h1 : ∀ r z, val (kk r z) = z := by intros; rfl) (h2 : ∀ r z, Γk (kk r z) = Γ1 r := by intros; rfl) :
    EvF X W Γ e (ma.bind fun r => (R.ofO (dop (ds r))).bind fun z => .val (kk r z)) val Γk := h kk val Γk ha r1 h1 h2
/-! builtins -/
theorem sa_B (C : Cf X W sc N) {ρ : Type} {enc : ρ → PyData} {x : Str} {id : String} {r : List V → Hp → VK → Prop} {dop : List PyData → Option ρ} (hc : CallR X (.builtin id) r) (hg : glB sc x = true) (hm : X.mg x = none) (hv : bootBuiltins x = some (.builtin id))
    (hk : ∀ G H σ Γ vs ds Q, Sta X.K G H σ Γ → DnA X.K (RgH H) H vs ds → Pz X enc G H σ Γ (dop ds) Q → r vs H Q)
    (hn : x ≠ "__name__" := by decide +kernel) (hdb : (x == ("__debug__" : Str)) = false := by decide +kernel) (he : starEach (e :: es) X.env = (false, eval e X.env) :: starEach es X.env := by rfl) (hpl : (backTo pos (starEach es X.env)).any (·.1) = false := by rfl) : SemA X W (e :: es) (.Call (.Name x p) (e :: es) [] pos) enc dop := by
  intro Γ α γ ma as Γ1 ds kk val Γk ha r1 h1 h2
  exact ev_callB (k := fun z => (R.ofO (dop (ds z))).bind fun y => .val (kk z y)) (av := fun q => .d true (enc (val q))) (Γk := Γk) C hc hg hm hv ha (fun z G H σ vs Q S h q => hk G H σ (Γ1 z) vs (ds z) Q S ((r1 z).ok S h) (Pz.of q (h1 z) (h2 z))) hn hdb he hpl
theorem sa_T (C : Cf X W sc N) {ρ : Type} {enc : ρ → PyData} {x : Str} {id : String} {r : List V → Hp → VK → Prop} {dop : List PyData → Option ρ} (hc : CallR X (.type id) r) (hg : glB sc x = true) (hm : X.mg x = none) (hv : bootBuiltins x = some (.type id))
    (hk : ∀ G H σ Γ vs ds Q, Sta X.K G H σ Γ → DnA X.K (RgH H) H vs ds → Pz X enc G H σ Γ (dop ds) Q → r vs H Q)
    (hn : x ≠ "__name__" := by decide +kernel) (hdb : (x == ("__debug__" : Str)) = false := by decide +kernel) (he : starEach (e :: es) X.env = (false, eval e X.env) :: starEach es X.env := by rfl) (hpl : (backTo pos (starEach es X.env)).any (·.1) = false := by rfl) : SemA X W (e :: es) (.Call (.Name x p) (e :: es) [] pos) enc dop := by
  intro Γ α γ ma as Γ1 ds kk val Γk ha r1 h1 h2
  exact ev_callT (k := fun z => (R.ofO (dop (ds z))).bind fun y => .val (kk z y)) (av := fun q => .d true (enc (val q))) (Γk := Γk) C hc hg hm hv ha (fun z G H σ vs Q S h q => hk G H σ (Γ1 z) vs (ds z) Q S ((r1 z).ok S h) (Pz.of q (h1 z) (h2 z))) hn hdb he hpl
theorem sn_B (C : Cf X W sc N) {x : Str} {id : String} {r : List V → Hp → VK → Prop} {dop : List PyData → Option (List PyData)} (hc : CallR X (.builtin id) r) (hg : glB sc x = true) (hm : X.mg x = none) (hv : bootBuiltins x = some (.builtin id))
    (hk : ∀ G H σ Γ vs ds Q, Sta X.K G H σ Γ → DnA X.K (RgH H) H vs ds → Pl X G H σ Γ (dop ds) Q → r vs H Q)
    (hn : x ≠ "__name__" := by decide +kernel) (hdb : (x == ("__debug__" : Str)) = false := by decide +kernel) (he : starEach (e :: es) X.env = (false, eval e X.env) :: starEach es X.env := by rfl) (hpl : (backTo pos (starEach es X.env)).any (·.1) = false := by rfl) : SemN X W (e :: es) (.Call (.Name x p) (e :: es) [] pos) dop := by
  intro Γ α γ ma as Γ1 ds kk val Γk ha r1 h1 h2
  exact evf_callB (k := fun z => (R.ofO (dop (ds z))).bind fun y => .val (kk z y)) (ds := val) (Γk := Γk) C hc hg hm hv ha (fun z G H σ vs Q S h q => hk G H σ (Γ1 z) vs (ds z) Q S ((r1 z).ok S h) (Pl.of q (h1 z) (h2 z))) hn hdb he hpl
theorem sn_T (C : Cf X W sc N) {x : Str} {id : String} {r : List V → Hp → VK → Prop} {dop : List PyData → Option (List PyData)} (hc : CallR X (.type id) r) (hg : glB sc x = true) (hm : X.mg x = none) (hv : bootBuiltins x = some (.type id))
    (hk : ∀ G H σ Γ vs ds Q, Sta X.K G H σ Γ → DnA X.K (RgH H) H vs ds → Pl X G H σ Γ (dop ds) Q → r vs H Q)
    (hn : x ≠ "__name__" := by decide +kernel) (hdb : (x == ("__debug__" : Str)) = false := by decide +kernel) (he : starEach (e :: es) X.env = (false, eval e X.env) :: starEach es X.env := by rfl) (hpl : (backTo pos (starEach es X.env)).any (·.1) = false := by rfl) : SemN X W (e :: es) (.Call (.Name x p) (e :: es) [] pos) dop := by
  intro Γ α γ ma as Γ1 ds kk val Γk ha r1 h1 h2
  exact evf_callT (k := fun z => (R.ofO (dop (ds z))).bind fun y => .val (kk z y)) (ds := val) (Γk := Γk) C hc hg hm hv ha (fun z G H σ vs Q S h q => hk G H σ (Γ1 z) vs (ds z) Q S ((r1 z).ok S h) (Pl.of q (h1 z) (h2 z))) hn hdb he hpl
theorem dna_one {K : PySem.W.Frag} {G : Rg} {H : Hp} {vs : List V} {d : PyData} (h : DnA K G H vs [d]) : ∃ v, vs = [v] ∧ Dn K G H v d := by
  cases h with
  | cons q r => cases r; exact ⟨_, rfl, q⟩
theorem dna_two {K : PySem.W.Frag} {G : Rg} {H : Hp} {vs : List V} {d d' : PyData} (h : DnA K G H vs [d, d']) : ∃ v u, vs = [v, u] ∧ Dn K G H v d ∧ Dn K G H u d' := by
  cases h with
  | cons q r => obtain ⟨u, rfl, z⟩ := dna_one r; exact ⟨_, _, rfl, q, z⟩
def lenD : List PyData → Option Int
  | [.list ds] => some (ds.length : Nat)
  | [.tuple ds] => some (ds.length : Nat)
  | [.str z] => if decide (z.length ≤ sizeLine) then some (z.length : Nat) else none
  | _ => none
theorem sa_len (C : Cf X W sc N) (hg : glB sc "len" = true) (hm : X.mg "len" = none) (he : starEach [e] X.env = (false, eval e X.env) :: starEach [] X.env := by rfl) : SemA X W [e] (.Call (.Name "len" p) [e] [] pos) PyData.int lenD :=
  sa_B C (callR_or call_len_seq call_len_str) hg hm PySem.boot_len (fun G H σ Γ vs ds Q S h k => by
    unfold lenD at k
    split at k
    · obtain ⟨v, rfl, hv⟩ := dna_one h
      obtain ⟨l, xs, rfl, g1, g2⟩ := dn_list hv
      refine .inl ⟨l, xs, rfl, .inl g1.sq, k.v S ?_⟩
      rw [g2.length]
      exact .int _
    · obtain ⟨v, rfl, hv⟩ := dna_one h
      obtain ⟨l, xs, rfl, g1, g2⟩ := dn_tuple hv
      refine .inl ⟨l, xs, rfl, .inr g1, k.v S ?_⟩
      rw [g2.length]
      exact .int _
    · obtain ⟨v, rfl, hv⟩ := dna_one h
      split at k
      · rename_i z hc
        exact .inr ⟨z, by rw [dn_str hv], of_decide_eq_true hc, k.v S (.int _)⟩
      · exact k.no.elim
    · exact k.no.elim) (by decide +kernel) (by decide +kernel) he
def max2D : List PyData → Option Int
  | [.int i, .int j] => some (max2 i j)
  | _ => none
def min2D : List PyData → Option Int
  | [.int i, .int j] => some (min2 i j)
  | _ => none
theorem sa_max2 (C : Cf X W sc N) (hg : glB sc "max" = true) (hm : X.mg "max" = none) (he : starEach (e :: es) X.env = (false, eval e X.env) :: starEach es X.env := by rfl) (hpl : (backTo pos (starEach es X.env)).any (·.1) = false := by rfl) : SemA X W (e :: es) (.Call (.Name "max" p) (e :: es) [] pos) PyData.int max2D :=
  sa_B C (call_max2 C.calm) hg hm PyProof.Rows.boot_max (fun G H σ Γ vs ds Q S h k => by
    unfold max2D at k
    split at k
    · obtain ⟨v, u, rfl, q1, q2⟩ := dna_two h
      exact ⟨_, _, by rw [dn_int q1, dn_int q2], k.v S (.int _)⟩
    · exact k.no.elim) (by decide +kernel) (by decide +kernel) he hpl
theorem sa_min2 (C : Cf X W sc N) (hg : glB sc "min" = true) (hm : X.mg "min" = none) (he : starEach (e :: es) X.env = (false, eval e X.env) :: starEach es X.env := by rfl) (hpl : (backTo pos (starEach es X.env)).any (·.1) = false := by rfl) : SemA X W (e :: es) (.Call (.Name "min" p) (e :: es) [] pos) PyData.int min2D :=
  sa_B C (call_min2 C.calm) hg hm (by decide +kernel) (fun G H σ Γ vs ds Q S h k => by
    unfold min2D at k
    split at k
    · obtain ⟨v, u, rfl, q1, q2⟩ := dna_two h
      exact ⟨_, _, by rw [dn_int q1, dn_int q2], k.v S (.int _)⟩
    · exact k.no.elim) (by decide +kernel) (by decide +kernel) he hpl
def intsD : List PyData → Option (List Int)
  | [.list ds] => intsOf ds
  | _ => none
theorem intsD_ok {H : Hp} {vs : List V} {ds : List PyData} {ns : List Int} (h : DnA X.K (RgH H) H vs ds) (e : intsD ds = some ns) : ∃ l, vs = [.ref l] ∧ SqL X.K H l (ns.map V.int) := by
  unfold intsD at e
  split at e
  · obtain ⟨v, rfl, hv⟩ := dna_one h
    obtain ⟨l, xs, rfl, g1, g2⟩ := dn_list hv
    rw [intsOf_eq e] at g2
    rw [dna_ints g2] at g1
    exact ⟨l, rfl, g1.sq⟩
  · cases e
def sumD (ds : List PyData) : Option Int := (intsD ds).map List.sum
def maxLD (ds : List PyData) : Option Int := (intsD ds).bind maxL
def minLD (ds : List PyData) : Option Int := (intsD ds).bind minL
theorem sa_sum (C : Cf X W sc N) (hg : glB sc "sum" = true) (hm : X.mg "sum" = none) (he : starEach [e] X.env = (false, eval e X.env) :: starEach [] X.env := by rfl) : SemA X W [e] (.Call (.Name "sum" p) [e] [] pos) PyData.int sumD :=
  sa_B C (cr_sum C.calm) hg hm (by decide +kernel) (fun G H σ Γ vs ds Q S h k => by
    unfold sumD at k
    cases hi : intsD ds with
    | none => rw [hi] at k; exact k.no.elim
    | some ns =>
      rw [hi] at k
      obtain ⟨l, rfl, hs⟩ := intsD_ok h hi
      exact ⟨l, ns, rfl, hs, k.v S (.int _)⟩) (by decide +kernel) (by decide +kernel) he
theorem sa_maxL (C : Cf X W sc N) (hg : glB sc "max" = true) (hm : X.mg "max" = none) (he : starEach [e] X.env = (false, eval e X.env) :: starEach [] X.env := by rfl) : SemA X W [e] (.Call (.Name "max" p) [e] [] pos) PyData.int maxLD :=
  sa_B C (cr_max C.calm) hg hm PyProof.Rows.boot_max (fun G H σ Γ vs ds Q S h k => by
    unfold maxLD at k
    cases hi : intsD ds with
    | none => rw [hi] at k; exact k.no.elim
    | some ns =>
      rw [hi] at k
      obtain ⟨l, rfl, hs⟩ := intsD_ok h hi
      cases hx : maxL ns with
      | none => have k : Pz X PyData.int G H σ Γ (maxL ns) Q := k; rw [hx] at k; exact k.no.elim
      | some m =>
        have k : Pz X PyData.int G H σ Γ (maxL ns) Q := k
        rw [hx] at k
        obtain ⟨h0, h1, h2⟩ := maxL_ok hx
        refine ⟨l, ns, rfl, hs, h0, fun m' hm' hb => ?_⟩
        have : m' = m := Int.le_antisymm (h2 m' hm') (hb m h1)
        subst this
        exact k.v S (.int _)) (by decide +kernel) (by decide +kernel) he
theorem sa_minL (C : Cf X W sc N) (hg : glB sc "min" = true) (hm : X.mg "min" = none) (he : starEach [e] X.env = (false, eval e X.env) :: starEach [] X.env := by rfl) : SemA X W [e] (.Call (.Name "min" p) [e] [] pos) PyData.int minLD :=
  sa_B C (cr_min C.calm) hg hm (by decide +kernel) (fun G H σ Γ vs ds Q S h k => by
    unfold minLD at k
    cases hi : intsD ds with
    | none => rw [hi] at k; exact k.no.elim
    | some ns =>
      rw [hi] at k
      obtain ⟨l, rfl, hs⟩ := intsD_ok h hi
      cases hx : minL ns with
      | none => have k : Pz X PyData.int G H σ Γ (minL ns) Q := k; rw [hx] at k; exact k.no.elim
      | some m =>
        have k : Pz X PyData.int G H σ Γ (minL ns) Q := k
        rw [hx] at k
        obtain ⟨h0, h1, h2⟩ := minL_ok hx
        refine ⟨l, ns, rfl, hs, h0, fun m' hm' hb => ?_⟩
        have : m' = m := Int.le_antisymm (hb m h1) (h2 m' hm')
        subst this
        exact k.v S (.int _)) (by decide +kernel) (by decide +kernel) he
def boolsD : List PyData → Option (List Bool)
  | [.list ds] => boolsOf ds
  | _ => none
theorem boolsD_ok {H : Hp} {vs : List V} {ds : List PyData} {ns : List Bool} (h : DnA X.K (RgH H) H vs ds) (e : boolsD ds = some ns) : ∃ l, vs = [.ref l] ∧ SqL X.K H l (ns.map V.bl) := by
  unfold boolsD at e
  split at e
  · obtain ⟨v, rfl, hv⟩ := dna_one h
    obtain ⟨l, xs, rfl, g1, g2⟩ := dn_list hv
    rw [boolsOf_eq e] at g2
    rw [dna_bools g2] at g1
    exact ⟨l, rfl, g1.sq⟩
  · cases e
def allD (ds : List PyData) : Option Bool := (boolsD ds).map fun ns => ns.all id
def anyD (ds : List PyData) : Option Bool := (boolsD ds).map fun ns => ns.any id
theorem sa_all (C : Cf X W sc N) (hg : glB sc "all" = true) (hm : X.mg "all" = none) (he : starEach [e] X.env = (false, eval e X.env) :: starEach [] X.env := by rfl) : SemA X W [e] (.Call (.Name "all" p) [e] [] pos) PyData.bool allD :=
  sa_B C (cr_all C.calm) hg hm PyProof.Rows.boot_all (fun G H σ Γ vs ds Q S h k => by
    unfold allD at k
    cases hi : boolsD ds with
    | none => rw [hi] at k; exact k.no.elim
    | some ns =>
      rw [hi] at k
      obtain ⟨l, rfl, hs⟩ := boolsD_ok h hi
      exact ⟨l, ns, rfl, hs, k.v S (.bl _)⟩) (by decide +kernel) (by decide +kernel) he
theorem sa_any (C : Cf X W sc N) (hg : glB sc "any" = true) (hm : X.mg "any" = none) (he : starEach [e] X.env = (false, eval e X.env) :: starEach [] X.env := by rfl) : SemA X W [e] (.Call (.Name "any" p) [e] [] pos) PyData.bool anyD :=
  sa_B C (cr_any C.calm) hg hm (by decide +kernel) (fun G H σ Γ vs ds Q S h k => by
    unfold anyD at k
    cases hi : boolsD ds with
    | none => rw [hi] at k; exact k.no.elim
    | some ns =>
      rw [hi] at k
      obtain ⟨l, rfl, hs⟩ := boolsD_ok h hi
      exact ⟨l, ns, rfl, hs, k.v S (.bl _)⟩) (by decide +kernel) (by decide +kernel) he
def intD : List PyData → Option Int
  | [.int i] => some i
  | [.bool z] => some (b2n z)
  | _ => none
theorem sa_int (C : Cf X W sc N) (hg : glB sc "int" = true) (hm : X.mg "int" = none) (he : starEach [e] X.env = (false, eval e X.env) :: starEach [] X.env := by rfl) : SemA X W [e] (.Call (.Name "int" p) [e] [] pos) PyData.int intD :=
  sa_T C call_int1 hg hm PyProof.Rows.boot_int (fun G H σ Γ vs ds Q S h k => by
    unfold intD at k
    split at k
    · obtain ⟨v, rfl, hv⟩ := dna_one h
      exact .inl ⟨_, by rw [dn_int hv], k.v S (.int _)⟩
    · obtain ⟨v, rfl, hv⟩ := dna_one h
      exact .inr ⟨_, by rw [dn_bool hv], k.v S (.int _)⟩
    · exact k.no.elim) (by decide +kernel) (by decide +kernel) he
/-- list(x), of a list or tuple whose items hold no lists -/
def listD : List PyData → Option (List PyData)
  | [.list ds] => if flat.flatA ds then some ds else none
  | [.tuple ds] => if flat.flatA ds then some ds else none
  | _ => none
theorem sn_list (C : Cf X W sc N) (hg : glB sc "list" = true) (hm : X.mg "list" = none) (he : starEach [e] X.env = (false, eval e X.env) :: starEach [] X.env := by rfl) : SemN X W [e] (.Call (.Name "list" p) [e] [] pos) listD :=
  sn_T C call_list_of hg hm PyProof.Rows.boot_list (fun G H σ Γ vs ds Q S h k => by
    unfold listD at k
    split at k
    · obtain ⟨v, rfl, hv⟩ := dna_one h
      obtain ⟨l, xs, rfl, g1, g2⟩ := dn_list hv
      split at k
      · rename_i hf
        exact ⟨l, xs, rfl, .inl g1.sq, fun l' hl => k.v S hl (g2.free hf)⟩
      · exact k.no.elim
    · obtain ⟨v, rfl, hv⟩ := dna_one h
      obtain ⟨l, xs, rfl, g1, g2⟩ := dn_tuple hv
      split at k
      · rename_i hf
        exact ⟨l, xs, rfl, .inr g1, fun l' hl => k.v S hl (g2.free hf)⟩
      · exact k.no.elim
    · exact k.no.elim) (by decide +kernel) (by decide +kernel) he
/-- tuple(x), of a list or tuple whose items hold no lists -/
def tupleD : List PyData → Option PyData
  | [.list ds] => if flat.flatA ds then some (.tuple ds) else none
  | [.tuple ds] => if flat.flatA ds then some (.tuple ds) else none
  | _ => none
theorem sa_tuple (C : Cf X W sc N) (hg : glB sc "tuple" = true) (hm : X.mg "tuple" = none) (he : starEach [e] X.env = (false, eval e X.env) :: starEach [] X.env := by rfl) : SemA X W [e] (.Call (.Name "tuple" p) [e] [] pos) idD tupleD :=
  sa_T C call_tuple_of hg hm PyProof.Rows.boot_tuple (fun G H σ Γ vs ds Q S h k => by
    unfold tupleD at k
    split at k
    · obtain ⟨v, rfl, hv⟩ := dna_one h
      obtain ⟨l, xs, rfl, g1, g2⟩ := dn_list hv
      split at k
      · rename_i hf
        refine ⟨l, xs, rfl, .inl ⟨g1.sq, fun l' hl => ?_⟩⟩
        obtain ⟨G2, S2, e2, h2⟩ := S.newTup (fr := true) hl (g2.free hf)
        exact k.v' e2 S2 h2
      · exact k.no.elim
    · obtain ⟨v, rfl, hv⟩ := dna_one h
      obtain ⟨l, xs, rfl, g1, g2⟩ := dn_tuple hv
      split at k
      · rename_i hf
        exact ⟨l, xs, rfl, .inr ⟨g1, k.v S (.tup g1 (g2.free hf))⟩⟩
      · exact k.no.elim
    · exact k.no.elim) (by decide +kernel) (by decide +kernel) he
/-- sorted(x) of whole numbers -/
def sortD : List PyData → Option (List PyData)
  | [.list ds] => (intsOf ds).map fun ns => (sortI ns).map PyData.int
  | _ => none
theorem sn_sorted (C : Cf X W sc N) (hg : glB sc "sorted" = true) (hm : X.mg "sorted" = none) (he : starEach [e] X.env = (false, eval e X.env) :: starEach [] X.env := by rfl) : SemN X W [e] (.Call (.Name "sorted" p) [e] [] pos) sortD :=
  sn_B C cr_sortedI hg hm PyProof.Rows.boot_sorted (fun G H σ Γ vs ds Q S h k => by
    have hd : sortD ds = (intsD ds).map fun ns => (sortI ns).map PyData.int := by
      unfold sortD intsD
      split <;> rfl
    rw [hd] at k
    cases hi : intsD ds with
    | none => rw [hi] at k; exact k.no.elim
    | some ns =>
      rw [hi] at k
      obtain ⟨l, rfl, hs⟩ := intsD_ok h hi
      refine ⟨l, ns, rfl, hs, fun ns' p' hp hs' hp' => ?_⟩
      rw [sortI_unique hp hs']
      exact k.v S hp' (ints_dna _)) (by decide +kernel) (by decide +kernel) he
/-! isinstance -/
def isiD (ts : List Tn) : List PyData → Option Bool
  | [d] => some (ts.any fun t => tyIs d t)
  | _ => none
theorem sa_isi (C : Cf X W sc N) (t : Tn) {T : Str} {p2 : Pos} (hg : glB sc "isinstance" = true) (hm : X.mg "isinstance" = none) (hgT : glB sc T = true) (hmT : X.mg T = none) (hv : bootBuiltins T = some (.type t.nm))
    (hnT : T ≠ "__name__" := by decide +kernel) (hdT : (T == ("__debug__" : Str)) = false := by decide +kernel) (hst : starEach [e, .Name T p2] X.env = (false, eval e X.env) :: starEach [.Name T p2] X.env := by rfl) (hst2 : starEach [.Name T p2] X.env = (false, eval (.Name T p2) X.env) :: starEach [] X.env := by rfl) (hst3 : starEach [e] X.env = (false, eval e X.env) :: starEach [] X.env := by rfl) :
    ∀ {Γ : List Sl} {d : PyData} {a : AV}, EvP X W Γ e a → Rdb Γ a d → EvP X W Γ (.Call (.Name "isinstance" p) [e, .Name T p2] [] pos) (.d true (.bool (tyIs d t))) := by
  intro Γ d a ha hr
  exact evp_isi C hm hg hmT hgT hv ha hr (tyIs_kit d t) hnT hdT hst hst2
theorem sa_isi2 (C : Cf X W sc N) (t u : Tn) {T U : Str} {p2 p3 p4 : Pos} {ek : Nat} (hg : glB sc "isinstance" = true) (hm : X.mg "isinstance" = none) (hgT : glB sc T = true) (hmT : X.mg T = none) (hv : bootBuiltins T = some (.type t.nm)) (hgU : glB sc U = true) (hmU : X.mg U = none) (hvU : bootBuiltins U = some (.type u.nm))
    (hnT : T ≠ "__name__" := by decide +kernel) (hdT : (T == ("__debug__" : Str)) = false := by decide +kernel) (hnU : U ≠ "__name__" := by decide +kernel) (hdU : (U == ("__debug__" : Str)) = false := by decide +kernel) (hst : starEach [e, .Tuple [.Name T p2, .Name U p3] ek p4] X.env = (false, eval e X.env) :: starEach [.Tuple [.Name T p2, .Name U p3] ek p4] X.env := by rfl) :
    ∀ {Γ : List Sl} {d : PyData} {a : AV}, EvP X W Γ e a → Rdb Γ a d → EvP X W Γ (.Call (.Name "isinstance" p) [e, .Tuple [.Name T p2, .Name U p3] ek p4] [] pos) (.d true (.bool (tyIs d t || tyIs d u))) := by
  intro Γ d a ha hr
  exact evp_isi2 C hm hg hmT hgT hv hmU hgU hvU ha hr (tyIs_kit d t) (tyIs_kit d u) hnT hdT hnU hdU hst
end
end PD


set_option Elab.async false
set_option linter.all false
set_option maxRecDepth 100000
set_option maxHeartbeats 4000000
set_option autoImplicit false
namespace PD
open PySem L2
section
variable {X : Cx} {W : WX} {sc : Scope} {N : List Str} {a b c e : Expr} {es : List Expr} {pos p : Pos} {Γ : List Sl}
/-! ## list + list -/
def rCatL (K : PySem.W.Frag) : R2 := fun x y H Q => ∃ l b xs zs, x = .ref l ∧ y = .ref b ∧ SqL K H l xs ∧ SqL K H b zs ∧ xs.length + zs.length ≤ sizeLine ∧ ∀ p, H p = none → Q (.ref p) (upd H p (.lst (xs ++ zs)))
theorem op_catL : OpR X (binaryOp .Add) (rCatL X.K) := by
  intro pins s σ H x y v u Q I rx ry h
  obtain ⟨l, b, xs, zs, rfl, rfl, hH, hB, hz, q⟩ := h
  cases rx
  cases ry
  obtain ⟨its, r, ⟨⟨cls, dd, data, sl⟩, n, e, hc, hd, hs⟩, z⟩ := I.list hH
  obtain ⟨its2, r2, ⟨⟨cls2, dd2, data2, sl2⟩, n2, e2, hc2, hd2, hs2⟩, z2⟩ := I.list hB
  have hc : cls = .type "list" := hc
  have hs : data = .seq its.toArray n := hs
  have hc2 : cls2 = .type "list" := hc2
  have hs2 : data2 = .seq its2.toArray n2 := hs2
  subst hc hs hc2 hs2
  have hl := r.length
  have hl2 := r2.length
  have ea : its.toArray ++ its2.toArray = (its ++ its2).toArray := by simp
  refine PySem.concat_meets ⟨_, e, rfl⟩ ⟨_, e2, rfl⟩ PySem.noFill_list_add PySem.seq_list_add PySem.F.slot_list_add PySem.F.entry_list_add (PySem.F.args_list_add_2 _ _) (PyProof.Rows.list_addW l b its.toArray its2.toArray n n2 dd dd2 sl sl2 (by rw [List.size_toArray, List.size_toArray]; omega)) ⟨e, e2, ?_⟩
  rw [ea]
  exact ⟨.ref _, _, I.lnew (t' := s.toks) (r.append r2) (by rw [List.length_append]; omega), rfl, q _ I.fresh⟩
/-- reading a value as a sequence whose items are as new as told -/
inductive RdF (Γ : List Sl) : Bool → AV → PyData → Prop
  | d {fr : Bool} {z : PyData} : RdF Γ fr (.d fr z) z
  | o {i : Nat} {es : List PyData} : Γ[i]? = some (.own (.lst es)) → RdF Γ true (.s i) (.list es)
  | i {i : Nat} {es : List PyData} : Γ[i]? = some (.io (.lst es)) → RdF Γ true (.s i) (.list es)
theorem RdF.rdb {fr : Bool} {A : AV} {z : PyData} (h : RdF Γ fr A z) : Rdb Γ A z := by
  cases h with
  | d => exact .d
  | o h => exact .o h
  | i h => exact .i h
theorem RdF.seqL {fr : Bool} {A : AV} {G : Gh} {H : Hp} {σ : St} {v : V} {ds : List PyData} (h : RdF Γ fr A (.list ds)) (S : Sta X.K G H σ Γ) (hv : AVok X.K G H σ v A) : ∃ l xs, v = .ref l ∧ SqL X.K H l xs ∧ DnA X.K (rg G fr) H xs ds := by
  cases h with
  | d =>
    obtain ⟨l, xs, rfl, g1, g2⟩ := dn_list hv
    exact ⟨l, xs, rfl, (g1.mono (S.w.rgl _)).sq, g2⟩
  | o h =>
    obtain ⟨l, xs, rfl, g1, g2⟩ := S.slotL (ds := ds) (by unfold rdD; simp only [h]) hv
    exact ⟨l, xs, rfl, SqL.of g1, g2⟩
  | i h =>
    obtain ⟨l, xs, rfl, g1, g2⟩ := S.slotL (ds := ds) (by unfold rdD; simp only [h]) hv
    exact ⟨l, xs, rfl, SqL.of g1, g2⟩
theorem RdF.seqT {fr : Bool} {A : AV} {G : Gh} {H : Hp} {σ : St} {v : V} {ds : List PyData} (h : RdF Γ fr A (.tuple ds)) (S : Sta X.K G H σ Γ) (hv : AVok X.K G H σ v A) : ∃ l xs, v = .ref l ∧ SqT X.K H l xs ∧ DnA X.K (rg G fr) H xs ds := by
  cases h with
  | d =>
    obtain ⟨l, xs, rfl, g1, g2⟩ := dn_tuple hv
    exact ⟨l, xs, rfl, g1, g2⟩
theorem DnA.fresh {K : PySem.W.Frag} {G : Gh} {H : Hp} {fr : Bool} {vs : List V} {ds : List PyData} (h : DnA K (rg G fr) H vs ds) (hf : (fr || flat.flatA ds) = true) : DnA K (rg G true) H vs ds := by
  cases fr with
  | true => exact h
  | false => exact h.free (by simpa using hf)
variable {α β γ : Type} {ma : R α} {ava : α → AV} {Γa : α → List Sl} {mb : α → R β} {avb : α → β → AV} {Γb : α → β → List Sl}
/-- list + list, both read behind both -/
theorem evf_catL {f1 f2 : Bool} {d1 d2 : α → β → List PyData} (ha : Ev X W Γ a ma ava Γa) (hb : ∀ x, Ev X W (Γa x) b (mb x) (avb x) (Γb x)) (r1 : ∀ x y, RdF (Γb x y) f1 (ava x) (.list (d1 x y))) (r2 : ∀ x y, RdF (Γb x y) f2 (avb x y) (.list (d2 x y)))
    (hf1 : ∀ x y, (f1 || flat.flatA (d1 x y)) = true) (hf2 : ∀ x y, (f2 || flat.flatA (d2 x y)) = true) (kk : α → β → γ) (val : γ → List PyData) (Γk : γ → List Sl) (h1 : ∀ x y, val (kk x y) = d1 x y ++ d2 x y := by intros; rfl) (h2 : ∀ x y, Γk (kk x y) = Γb x y := by intros; rfl) :
    EvF X W Γ (.BinOp a .Add b pos) (ma.bind fun x => (mb x).bind fun y => (R.req (szB (d1 x y ++ d2 x y))).bind fun _ => .val (kk x y)) val Γk :=
  pe_imp (pe_op op_catL ha (pe_any fun x => hb x)) fun σ H Q ⟨G, S, q⟩ => ⟨G, S, (Pst.bind q).imp fun x G1 H1 e1 q1 v S1 hv => ⟨x, G1, S1, (Pst.bind q1).imp fun y G2 H2 e2 q2 u S2 hu => by
    obtain ⟨hc, q3⟩ := Pst.req q2
    obtain ⟨l, xs, rfl, g1, g2⟩ := (r1 x y).seqL S2 (hv.ext e2)
    obtain ⟨l2, ys, rfl, g3, g4⟩ := (r2 x y).seqL S2 hu
    refine ⟨l, l2, xs, ys, rfl, rfl, g1, g3, ?_, fun p hp => q3 G2 H2 (Ext.rf S2.w) p _ (by rw [h2]; exact S2) hp (by rw [h1]; exact (g2.fresh (hf1 x y)).append (g4.fresh (hf2 x y)))⟩
    have := of_decide_eq_true hc
    rw [g2.length, g4.length]
    simpa using this⟩⟩
/-! ## slices -/
def cutD {α : Type} (ds : List α) (lo hi : Option Int) : List α := (ds.drop (HT.sIx ds.length 0 lo)).take (HT.sIx ds.length ds.length hi - HT.sIx ds.length 0 lo)
theorem DnA.cut {K : PySem.W.Frag} {G : Rg} {H : Hp} {vs : List V} {ds : List PyData} (h : DnA K G H vs ds) (lo hi : Option Int) : DnA K G H (cutV vs lo hi) (cutD ds lo hi) := by
  unfold cutV cutD
  rw [h.length]
  exact (h.drop _).take _
/-- a[lo:] and a[:hi] of a list -/
theorem evf_cutR {f1 : Bool} {d1 : α → β → List PyData} {n : α → β → Int} {p2 : Pos} (ha : Ev X W Γ a ma ava Γa) (hb : ∀ x, Ev X W (Γa x) b (mb x) (avb x) (Γb x)) (r1 : ∀ x y, RdF (Γb x y) f1 (ava x) (.list (d1 x y))) (r2 : ∀ x y, Rdb (Γb x y) (avb x y) (.int (n x y)))
    (hf1 : ∀ x y, (f1 || flat.flatA (d1 x y)) = true) (kk : α → β → γ) (val : γ → List PyData) (Γk : γ → List Sl) (h1 : ∀ x y, val (kk x y) = cutD (d1 x y) none (some (n x y)) := by intros; rfl) (h2 : ∀ x y, Γk (kk x y) = Γb x y := by intros; rfl) :
    EvF X W Γ (.Subscript a (.Slice none (some b) none p2) pos) (ma.bind fun x => (mb x).bind fun y => .val (kk x y)) val Γk :=
  pe_imp (pe_slice sl_list ha po_none (po_some (pe_any fun x => hb x))) fun σ H Q ⟨G, S, q⟩ => ⟨G, S, (Pst.bind q).imp fun x G1 H1 e1 q1 v S1 hv => ⟨x, G1, S1, (Pst.bind q1).imp fun y G2 H2 e2 q2 u S2 hu => by
    obtain ⟨l, xs, rfl, g1, g2⟩ := (r1 x y).seqL S2 (hv.ext e2)
    have hu := dn_int ((r2 x y).ok S2 hu)
    refine ⟨n x y, hu, l, xs, rfl, g1, fun p hp => q2 G2 H2 (Ext.rf S2.w) p _ (by rw [h2]; exact S2) hp (by rw [h1]; exact (g2.fresh (hf1 x y)).cut _ _)⟩⟩⟩
theorem evf_cutL {f1 : Bool} {d1 : α → β → List PyData} {n : α → β → Int} {p2 : Pos} (ha : Ev X W Γ a ma ava Γa) (hb : ∀ x, Ev X W (Γa x) b (mb x) (avb x) (Γb x)) (r1 : ∀ x y, RdF (Γb x y) f1 (ava x) (.list (d1 x y))) (r2 : ∀ x y, Rdb (Γb x y) (avb x y) (.int (n x y)))
    (hf1 : ∀ x y, (f1 || flat.flatA (d1 x y)) = true) (kk : α → β → γ) (val : γ → List PyData) (Γk : γ → List Sl) (h1 : ∀ x y, val (kk x y) = cutD (d1 x y) (some (n x y)) none := by intros; rfl) (h2 : ∀ x y, Γk (kk x y) = Γb x y := by intros; rfl) :
    EvF X W Γ (.Subscript a (.Slice (some b) none none p2) pos) (ma.bind fun x => (mb x).bind fun y => .val (kk x y)) val Γk :=
  pe_imp (pe_slice sl_list ha (po_some (pe_any fun x => hb x)) po_none) fun σ H Q ⟨G, S, q⟩ => ⟨G, S, (Pst.bind q).imp fun x G1 H1 e1 q1 v S1 hv => ⟨x, G1, S1, (Pst.bind q1).imp fun y G2 H2 e2 q2 u S2 hu => by
    obtain ⟨l, xs, rfl, g1, g2⟩ := (r1 x y).seqL S2 (hv.ext e2)
    have hu := dn_int ((r2 x y).ok S2 hu)
    refine ⟨n x y, hu, l, xs, rfl, g1, fun p hp => q2 G2 H2 (Ext.rf S2.w) p _ (by rw [h2]; exact S2) hp (by rw [h1]; exact (g2.fresh (hf1 x y)).cut _ _)⟩⟩⟩
/-! ## keyword arguments -/
theorem kbinds1 {K : PySem.W.Frag} {x qual : Str} {params : Arguments} {body : List Stmt} {scope : Scope} {dvs : List V} {kws : List (Str × V)} {f : Addr} {fd : FuncData} {ps : List Str} (F : FunD K x qual params body scope dvs kws f fd) (n j : Nat) (ks : List Str) (hd : dvs ≠ [])
    (h : ∀ (T : Addr) (kV doc pm : Value) (an : Option Addr) (cdv ct : Value) (us its ws : List Value), us.length = n → its.length = dvs.length → ws.length = ks.length →
      ∃ k, bindArgs (PySem.W.fnOf x qual params body scope (.ref T) kV doc pm an cdv ct) ⟨us, ks.zip ws⟩ = seqItems? (.ref T) >>= k ∧ k (some its.toArray) = pure (ps.zip (us ++ ws ++ its.drop j))) :
    ∃ its : List Value, KBn K fd ps n ks (fun us ws => us ++ ws ++ its) (fun vs zs => vs ++ zs ++ dvs.drop j) := by
  obtain ⟨oc, od, dV, kV, doc, pm, an, cdv, ct, osl, rfl, lk, hcd, hD, hK⟩ := F.ex
  rcases hD with ⟨e, _⟩ | ⟨_, T, o, its, m, rfl, lT, oT, rT⟩
  · exact absurd e hd
  · refine ⟨its.drop j, ⟨fun s us ws X l1 l2 => ?_, fun r1 r2 => (r1.append r2).append (rT.drop j)⟩⟩
    obtain ⟨k, e1, e2⟩ := h T kV doc pm an cdv ct us its ws l1 rT.length.symm l2
    refine BindsTo.of_looks fun M => ?_
    rw [e1]
    exact looks_items X lT oT (.of_pure e2)
def GvK (P : Program) (w : World) (K : PySem.W.Frag) (mg : Str → Option Value) (base : Heap) (k : Nat) (x : Str) (n : Nat) (ks : List Str) (dvs : List V) (sp : Sp) : Prop :=
  ∃ (f : Addr) (fd : FuncData) (ps : List Str) (its : List Value), FnOk P w K mg base (L2.CX P w) k f fd ps sp ∧ mg x = some (.ref f) ∧ PySem.W.keepIn K (.ref f) = true ∧ KBn K fd ps n ks (fun us ws => us ++ ws ++ its) (fun vs zs => vs ++ zs ++ dvs)
def CleeK (X : Cx) (x : Str) (n : Nat) (ks : List Str) (dvs : List V) (sp : Sp) : Prop :=
  ∃ (k : Nat) (f : Addr) (fd : FuncData) (ps : List Str) (its : List Value), FnOk X.prog X.w X.K X.mg X.base (L2.CX X.prog X.w) k f fd ps sp ∧ Room k X.A ∧ X.mg x = some (.ref f) ∧ PySem.W.keepIn X.K (.ref f) = true ∧ KBn X.K fd ps n ks (fun us ws => us ++ ws ++ its) (fun vs zs => vs ++ zs ++ dvs)
theorem GvK.clee {P : Program} {w : World} {K : PySem.W.Frag} {mg : Str → Option Value} {base : Heap} {k k' : Nat} {x : Str} {n : Nat} {ks : List Str} {dvs : List V} {sp : Sp} {scope : Scope} (g : GvK P w K mg base k x n ks dvs sp) (h : Here X W P w K mg base scope N k') (hk : k ≤ k') : CleeK X x n ks dvs sp := by
  obtain ⟨f, fd, ps, its, g1, g2, g3, g4⟩ := g
  refine ⟨k, f, fd, ps, its, ?_, h.room.mono hk, ?_, ?_, ?_⟩
  · rw [h.prog, h.w, h.K, h.mg, h.base]; exact g1
  · rw [h.mg]; exact g2
  · rw [h.K]; exact g3
  · rw [h.K]; exact g4
theorem GvK.cP {P : Program} {w : World} {K : PySem.W.Frag} {mg : Str → Option Value} {base : Heap} {k k' : Nat} {x : Str} {n : Nat} {ks : List Str} {dvs : List V} {τ ρ : Type} {ar : τ → List PyData} {m : τ → R ρ} {res : ρ → Rs} {scope : Scope} (g : GvK P w K mg base k x n ks dvs (spP K mg ar m res)) (h : Here X W P w K mg base scope N k') (hk : k ≤ k') : CleeK X x n ks dvs (spP X.K X.mg ar m res) := by
  have := g.clee h hk
  rw [h.K, h.mg]
  exact this
theorem CleeK.blk {x : Str} {n : Nat} {ks : List Str} {dvs : List V} {sp : Sp} (h : CleeK X x n ks dvs sp) {s : Shared} {H : Hp} {scope : Scope} {ce : Env} {fp : List Addr} : CleeK (X.blk s H scope ce fp) x n ks dvs sp := h
def EvKP (X : Cx) (W : WX) (Γ : List Sl) (kws : List Keyword) (as : List AV) : Prop := PK X kws (rdA X W Γ (R.val ()) (fun _ => as) (fun _ => Γ))
theorem evk_nil : EvKP X W Γ [] [] := by
  have h : PK X [] tNil := pk_nil
  exact ⟨fun pos pins s σ H Q I ⟨G, S, q⟩ => h.run pos pins s σ H Q I (q G H (Ext.rf S.w) [] S .nil)⟩
theorem evk_cons {nm : Option Str} {kpos : Pos} {kws : List Keyword} {A : AV} {as : List AV} (ha : EvP X W Γ e A) (hk : EvKP X W Γ kws as) : EvKP X W Γ (⟨nm, e, kpos⟩ :: kws) (A :: as) := by
  have h := pk_cons (nm := nm) (kpos := kpos) ha hk
  refine ⟨fun pos pins s σ H Q I ⟨G, S, q⟩ => h.run pos pins s σ H Q I ⟨G, S, fun G1 H1 e1 v S1 a1 => ⟨G1, S1, fun G2 H2 e2 vs S2 a2 => ?_⟩⟩⟩
  exact q G2 H2 (e1.tr e2) (v :: vs) S2 (.cons (a1.ext e2) a2)
theorem Ev.noxE {τ : Type} {m : R τ} {av : τ → AV} {Γ' : τ → List Sl} {W' : WX} (h : Ev X W Γ e m av Γ') : Ev X W Γ e m.nox av Γ' := pe_imp h fun σ H Q ⟨G, S, q⟩ => ⟨G, S, by cases m with
  | bad => exact q
  | exc x => exact q.elim
  | val r => exact q⟩
section
variable {x : Str} {dvs : List V} {dds : List PyData} {τ ρ : Type} {ar : τ → List PyData} {m : τ → R ρ} {res : ρ → Rs} {kws : List Keyword} {ks : List Str} {n : Nat} {as aks : List AV}
theorem passF {E : XK} : Passes (L2.CX X.prog X.w) X (fun _ _ _ => False) := by
  intro pins σ H s e s' I c
  obtain ⟨_, _, _, _, _, _, _, _, _, _, _, _, z⟩ := c
  exact z.elim
theorem ev_callKP (C : Cf X W sc N) (hc : CleeK X x n ks dvs (spP X.K X.mg ar m res)) (hg : glB sc x = true) (ha : EvAP X W Γ (e :: es) as) (hkw : EvKP X W Γ kws aks) (hdv : ∀ G H, DnA X.K G H dvs dds) (t : τ) {ds dks : List PyData} (h1 : ArD Γ as ds) (h1k : ArD Γ aks dks) (h1' : ds ++ dks ++ dds = ar t) (hn : as.length = n) (hnk : aks.length = ks.length) (enc : ρ → PyData) (h2 : ∀ r, res r = .d (enc r) := by intros; rfl)
    (hall : (backToKw pos (keywordEach kws X.env)).all (·.1.isSome) = true := by rfl) (hks : (backToKw pos (keywordEach kws X.env)).filterMap (·.1) = ks := by rfl) (hdb : (x == ("__debug__" : Str)) = false := by decide +kernel) (he : starEach (e :: es) X.env = (false, eval e X.env) :: starEach es X.env := by rfl)
    (hpl : ((backTo pos (starEach (e :: es) X.env)).any (·.1) || (backToKw pos (keywordEach kws X.env)).any (·.1.isNone)) = false := by rfl) :
    Ev X W Γ (.Call (.Name x p) (e :: es) kws pos) (m t).nox (fun r => .d true (enc r)) (fun _ => Γ) := by
  obtain ⟨k, f, fd, ps, its, F, hr, hm, hk, hb⟩ := hc
  refine pe_imp (pe_callN (E := fun _ _ _ => False) F hr (C.gl hg) hm hk hb (passF (E := fun _ _ _ => False)) ha hkw hall hks hdb he hpl) fun σ H Q ⟨G, S, q⟩ => ?_
  refine ⟨G, S, fun G1 H1 e1 vs S1 av => ⟨G1, S1, fun G2 H2 e2 zs S2 az => ⟨av.length.trans hn, az.length.trans hnk, t, ?_, ?_⟩⟩⟩
  · rw [← h1']
    exact ((h1.ok S2 (av.ext e2)).append (h1k.ok S2 az)).append (hdv _ _)
  · cases hm' : m t with
    | bad => rw [hm'] at q; exact q
    | exc ex => rw [hm'] at q; exact q.elim
    | val r =>
      rw [hm'] at q
      intro H' N' s n
      obtain ⟨G', S', e', l⟩ := call_end S2 s n
      rw [h2 r]
      intro v hv
      exact q G' H' ((e1.tr e2).tr e') v S' (hv.mono l (TupLe.rf _))
theorem evf_callKP (C : Cf X W sc N) (hc : CleeK X x n ks dvs (spP X.K X.mg ar m res)) (hg : glB sc x = true) (ha : EvAP X W Γ (e :: es) as) (hkw : EvKP X W Γ kws aks) (hdv : ∀ G H, DnA X.K G H dvs dds) (t : τ) {ds dks : List PyData} (h1 : ArD Γ as ds) (h1k : ArD Γ aks dks) (h1' : ds ++ dks ++ dds = ar t) (hn : as.length = n) (hnk : aks.length = ks.length) (enc : ρ → List PyData) (h2 : ∀ r, res r = .f (enc r) := by intros; rfl)
    (hall : (backToKw pos (keywordEach kws X.env)).all (·.1.isSome) = true := by rfl) (hks : (backToKw pos (keywordEach kws X.env)).filterMap (·.1) = ks := by rfl) (hdb : (x == ("__debug__" : Str)) = false := by decide +kernel) (he : starEach (e :: es) X.env = (false, eval e X.env) :: starEach es X.env := by rfl)
    (hpl : ((backTo pos (starEach (e :: es) X.env)).any (·.1) || (backToKw pos (keywordEach kws X.env)).any (·.1.isNone)) = false := by rfl) :
    EvF X W Γ (.Call (.Name x p) (e :: es) kws pos) (m t).nox enc (fun _ => Γ) := by
  obtain ⟨k, f, fd, ps, its, F, hr, hm, hk, hb⟩ := hc
  refine pe_imp (pe_callN (E := fun _ _ _ => False) F hr (C.gl hg) hm hk hb (passF (E := fun _ _ _ => False)) ha hkw hall hks hdb he hpl) fun σ H Q ⟨G, S, q⟩ => ?_
  refine ⟨G, S, fun G1 H1 e1 vs S1 av => ⟨G1, S1, fun G2 H2 e2 zs S2 az => ⟨av.length.trans hn, az.length.trans hnk, t, ?_, ?_⟩⟩⟩
  · rw [← h1']
    exact ((h1.ok S2 (av.ext e2)).append (h1k.ok S2 az)).append (hdv _ _)
  · cases hm' : m t with
    | bad => rw [hm'] at q; exact q
    | exc ex => rw [hm'] at q; exact q.elim
    | val r =>
      rw [hm'] at q
      intro H' N' s n
      obtain ⟨G', S', e', l⟩ := call_end S2 s n
      rw [h2 r]
      intro p ws hp hd
      exact q G' H' ((e1.tr e2).tr e') p ws S' hp (hd.mono l (TupLe.rf _))
end
end
end PD


set_option Elab.async false
set_option linter.all false
set_option maxRecDepth 100000
set_option maxHeartbeats 4000000
set_option autoImplicit false
namespace PD
open PySem L2
theorem u65 {X : Cx} {W : WX} {sc : Scope} {N : List Str} (C : Cf X W sc N) : X.A.units + 65 < cLine := by have := C.hu2; omega
theorem cut_map {α β : Type} (f : α → β) (xs : List α) (lo hi : Option Int) : (cutD xs lo hi).map f = cutD (xs.map f) lo hi := by
  unfold cutD
  rw [List.map_take, List.map_drop, List.length_map]
section
variable {X : Cx} {W : WX} {sc : Scope} {N : List Str} {Γ Γ0 : List Sl} {pos p : Pos} {tg iter elt e : Expr} {ifs : List Expr} {scope : Scope} {own : List (Str × Nat)} {ι α β : Type} {enc : α → PyData} {fr : Bool} {ts : List Nat} {f : α → List Sl → List Sl} {items : ι → List α}
  {t : α → R Bool} {el : α → R β} {encO : β → PyData} {mi : R ι}
theorem evi_enumM (C : Cf X W sc N) {elts : List Expr} {kk : Nat} {tpos : Pos} {xs : ι → List α} {Γ1 : ι → List Sl} (hm : X.mg "enumerate" = none) (hg : glB sc "enumerate" = true) (ha : Ev X W Γ e mi (fun r => .d fr (.list ((xs r).map enc))) Γ1) (hst : starEach [e] X.env = [(false, eval e X.env)] := by rfl) :
    EvI X W Γ (.Tuple elts kk tpos) (.Call (.Name "enumerate" p) [e] [] pos) mi (fun r => (enumI (xs r)).map fun z => .tuple [.int z.1, enc z.2]) fr Γ1 := by
  have := evi_enum (elts := elts) (kk := kk) (tpos := tpos) (p := p) (pos := pos) C hm hg ha hst
  simpa only [enumI_ds] using this
theorem evi_enumMT (C : Cf X W sc N) {elts : List Expr} {kk : Nat} {tpos : Pos} {xs : ι → List α} {Γ1 : ι → List Sl} (hm : X.mg "enumerate" = none) (hg : glB sc "enumerate" = true) (ha : Ev X W Γ e mi (fun r => .d fr (.tuple ((xs r).map enc))) Γ1) (hst : starEach [e] X.env = [(false, eval e X.env)] := by rfl) :
    EvI X W Γ (.Tuple elts kk tpos) (.Call (.Name "enumerate" p) [e] [] pos) mi (fun r => (enumI (xs r)).map fun z => .tuple [.int z.1, enc z.2]) fr Γ1 := by
  have := evi_enumT (elts := elts) (kk := kk) (tpos := tpos) (p := p) (pos := pos) C hm hg ha hst
  simpa only [enumI_ds] using this
/-- a comprehension over what a call gives -/
structure CompOkI (X : Cx) (W : WX) (sc : Scope) (N : List Str) (Γ Γ0 : List Sl) (tg iter elt : Expr) (ifs : List Expr) (scope : Scope) (own : List (Str × Nat)) {ι α β : Type} (mi : R ι) (enc : α → PyData) (fr : Bool) (ts : List Nat) (f : α → List Sl → List Sl) (items : ι → List α) (t : α → R Bool) (el : α → R β) (encO : β → PyData) : Prop where
  hin : EvI X W Γ tg iter mi (fun r => (items r).map enc) fr (fun _ => Γ)
  ok : blkC N sc scope own = true
  hg : ∀ (s : Shared) (H : Hp) (c : Addr) (cl : List (Str × Addr)) (fp : List Addr), Tgt (X.blk s H scope (compEnvC scope cl c X.env) fp) tg enc fr ts f
  ht : ∀ (s : Shared) (H : Hp) (c : Addr) (cl : List (Str × Addr)) (fp : List Addr) (x : α), EvTs (X.blk s H scope (compEnvC scope cl c X.env) fp) WF (f x Γ0) ifs (t x) (fun t => t) (fun _ => f x Γ0)
  he : ∀ (s : Shared) (H : Hp) (c : Addr) (cl : List (Str × Addr)) (fp : List Addr) (x : α), Ev (X.blk s H scope (compEnvC scope cl c X.env) fp) WF (f x Γ0) elt (el x) (fun y => .d true (encO y)) (fun _ => f x Γ0)
  hi : Γ0 = wipeG Γ (own.map (·.2))
  hts : ∀ j ∈ ts, j ∈ own.map (·.2)
  hf : ∀ x, Γ0 = wipeG (f x Γ0) (own.map (·.2))
  hun : ∀ j, j ∈ own.map (·.2) → j < Γ0.length → Γ0[j]? = some .un
  hs : ∀ x, foldedSetIterable iter X.env x = pure x
theorem comp_eqI : (mi.bind fun r => (R.req (szB (items r))).bind fun _ => compR (S := Unit) (τ := Bool) (ρ := β) (fun _ x => t x) (fun t => t) (fun _ => ()) (fun _ x => el x) (fun _ => ()) (fun z => z) (items r) ()) =
    ((mi.bind fun r => (R.req (szB (items r))).bind fun _ => R.comp t el (items r)).bind fun ys => .val ((), ys)) := by
  rw [R.bind_assoc]
  congr 1
  funext r
  rw [R.bind_assoc, compR_comp t el (items r)]
theorem evf_compI (C : Cf X W sc N) (h : CompOkI X W sc N Γ Γ0 tg iter elt ifs scope own mi enc fr ts f items t el encO) :
    EvF X W Γ (.ListComp elt [⟨tg, iter, ifs, 0⟩] scope pos) (mi.bind fun r => (R.req (szB (items r))).bind fun _ => R.comp t el (items r)) (fun ys => ys.map encO) (fun _ => Γ0) := by
  have q := evf_comp (S := Unit) (s0 := fun _ => ()) (Γs := fun _ => Γ0) (tt := fun _ x => t x) (bt := fun t => t) (Γt := fun _ x => f x Γ0) (st := fun _ => ()) (te := fun _ x => el x) (se := fun _ => ()) (out := fun z => z) (encO := encO) (pos := pos)
    C h.hin h.ok (Γe := fun _ x => f x Γ0) h.hg (fun s H c cl fp z x => h.ht s H c cl fp x) (fun s H c cl fp z x => h.he s H c cl fp x) (fun _ => h.hi) h.hts (fun _ x => h.hf x) (fun _ x => h.hf x) (fun _ => h.hun) h.hs
  exact q.re (fun ys => ((), ys)) comp_eqI
theorem set_compI (C : Cf X W sc N) (hk : sc.kind = .function) {i : Nat} {y : Str} {py spos : Pos} (hN : N[i]? = some y) (hy : lclB sc y = true) (hl : (py.line == pos.line) = true) (hnn : (scope.names.any fun (n, k) => n == y && (k == .local || k == .cell)) = false)
    (h : CompOkI X W sc N Γ Γ0 tg iter elt ifs scope own mi enc fr ts f items t el encO) :
    SetC X W Γ y py (.ListComp elt [⟨tg, iter, ifs, 0⟩] scope pos) spos i (mi.bind fun r => (R.req (szB (items r))).bind fun _ => R.comp t el (items r)) (fun ys => ys.map encO) (fun _ => Γ0) := by
  have q := set_comp (S := Unit) (s0 := fun _ => ()) (Γs := fun _ => Γ0) (tt := fun _ x => t x) (bt := fun t => t) (Γt := fun _ x => f x Γ0) (st := fun _ => ()) (te := fun _ x => el x) (se := fun _ => ()) (out := fun z => z) (encO := encO) (pos := pos) (spos := spos)
    C hk hN hy hl hnn h.hin h.ok (Γe := fun _ x => f x Γ0) h.hg (fun s H c cl fp z x => h.ht s H c cl fp x) (fun s H c cl fp z x => h.he s H c cl fp x) (fun _ => h.hi) h.hts (fun _ x => h.hf x) (fun _ x => h.hf x) (fun _ => h.hun) h.hs
  exact q.re (fun ys => ((), ys)) comp_eqI
end
end PD


set_option Elab.async false
set_option linter.all false
set_option maxRecDepth 100000
set_option maxHeartbeats 4000000
set_option autoImplicit false
namespace PD
open PySem L2
/-- data or None -/
def optD {α : Type} (enc : α → PyData) : Option α → PyData
  | none => .none
  | some x => enc x
theorem eqt_optI : EqT (optD PyData.int) 0 where
  lay := fun x => by cases x <;> rfl
  dep := fun x => by cases x <;> exact Nat.le_refl _
  eq := fun x y => by
    cases x <;> cases y
    · rfl
    · rfl
    · rfl
    · rename_i a b
      show PyData.eqv (.int a) (.int b) = _
      rw [eqt_int.eq]
      simp
theorem flat_opt {α : Type} {enc : α → PyData} (h : ∀ x, flat (enc x) = true) (o : Option α) : flat (optD enc o) = true := by
  cases o
  · rfl
  · exact h _
section
variable {X : Cx} {W : WX} {sc : Scope} {N : List Str} {a b c e : Expr} {es : List Expr} {pos p : Pos} {Γ : List Sl}
theorem EvP.bl {x y : Bool} {f : Bool} (h : EvP X W Γ e (.d f (.bool x))) (he : x = y) : EvP X W Γ e (.d f (.bool y)) := by subst he; exact h
theorem evp_isO {α : Type} {enc : α → PyData} {o : Option α} {f1 f2 : Bool} (hn : ∀ x, isN (enc x) = false) (ha : EvP X W Γ a (.d f1 (optD enc o))) (hb : EvP X W Γ b (.d f2 .none)) (hm : behindInMarks .Is b = false := by first | exact nobehind _ (by decide) (by decide) | rfl) : EvP X W Γ (.Compare a [.Is] [b] pos) (.d true (.bool o.isNone)) := by
  refine Sem2.pu (s2_is hm) (z := o.isNone) ?_ ha hb .d .d
  cases o with
  | none => rfl
  | some x => show some (isN (enc x)) = _; rw [hn]; rfl
theorem evp_isnO {α : Type} {enc : α → PyData} {o : Option α} {f1 f2 : Bool} (hn : ∀ x, isN (enc x) = false) (ha : EvP X W Γ a (.d f1 (optD enc o))) (hb : EvP X W Γ b (.d f2 .none)) (hm : behindInMarks .IsNot b = false := by first | exact nobehind _ (by decide) (by decide) | rfl) : EvP X W Γ (.Compare a [.IsNot] [b] pos) (.d true (.bool o.isSome)) := by
  refine Sem2.pu (s2_isnot hm) (z := o.isSome) ?_ ha hb .d .d
  cases o with
  | none => rfl
  | some x => show some (!isN (enc x)) = _; rw [hn]; rfl
theorem tyo_int (o : Option Int) : tyIs (optD PyData.int o) .int = o.isSome := by cases o <;> rfl
theorem tyo_bool (o : Option Int) : tyIs (optD PyData.int o) .bool = false := by cases o <;> rfl
theorem tyo_str (o : Option Int) : tyIs (optD PyData.int o) .str = false := by cases o <;> rfl
theorem tyo_list (o : Option Int) : tyIs (optD PyData.int o) .list = false := by cases o <;> rfl
theorem tyo_tuple (o : Option Int) : tyIs (optD PyData.int o) .tuple = false := by cases o <;> rfl
end
end PD


set_option Elab.async false
set_option linter.all false
set_option maxRecDepth 100000
set_option maxHeartbeats 4000000
set_option autoImplicit false
namespace PD
open PySem L2
/-! ## the feed of numbers: a dict with a list in it, as a cell -/
abbrev Fd := List Int × Int × Int
def fdK (l : Addr) (t s : Int) : List (Key × V) := [(.inr "cells", .ref l), (.inr "turn", .int t), (.inr "seed", .int s)]
def feedA (f : Fd) : AbsC where
  ok := fun K H v fp => ∃ d l, v = .ref d ∧ fp = [d, l] ∧ d ≠ l ∧ H d = some (.dK (fdK l f.2.1 f.2.2)) ∧ H l = some (.lst (f.1.map V.int))
  mono := fun K H H' v fp ⟨d, l, h1, h2, h3, h4, h5⟩ hk ht => ⟨d, l, h1, h2, h3, by rw [hk d (by simp [h2])]; exact h4, by rw [hk l (by simp [h2])]; exact h5⟩
theorem fd_cells (l : Addr) (t s : Int) : valV (fdK l t s) (.inr "cells" : Key) = some (.ref l) := rfl
theorem fd_turn (l : Addr) (t s : Int) : valV (fdK l t s) (.inr "turn" : Key) = some (.int t) := rfl
theorem fd_seed (l : Addr) (t s : Int) : valV (fdK l t s) (.inr "seed" : Key) = some (.int s) := rfl
theorem fd_pcells (l l' : Addr) (t s : Int) : putK (fdK l t s) (.inr "cells" : Key) (.ref l') = fdK l' t s := rfl
theorem fd_pturn (l : Addr) (t s t' : Int) : putK (fdK l t s) (.inr "turn" : Key) (.int t') = fdK l t' s := rfl
theorem fd_pseed (l : Addr) (t s s' : Int) : putK (fdK l t s) (.inr "seed" : Key) (.int s') = fdK l t s' := rfl

theorem ixN0 {n : Nat} (h : 0 < n) : ixN n 0 = some 0 := by
  unfold ixN
  rw [if_pos (Int.le_refl 0), if_pos (by omega)]
  rfl
theorem Sta.feed {K : PySem.W.Frag} {G : Gh} {H : Hp} {σ : St} {Γ : List Sl} {f : Fd} (S : Sta K G H σ Γ) (i : Nat) (io : Bool) (hi : Γ[i]? = some (mkS io (.abs (feedA f)))) :
    ∃ d l, σ[i]? = some (some (.ref d)) ∧ d ≠ l ∧ H d = some (.dK (fdK l f.2.1 f.2.2)) ∧ H l = some (.lst (f.1.map V.int)) ∧
      (∀ t s, Sta K G (upd H d (.dK (fdK l t s))) σ (Γ.set i (mkS io (.abs (feedA (f.1, t, s))))) ∧ Ext G H G (upd H d (.dK (fdK l t s)))) ∧
      (∀ ns : List Int, Sta K G (upd H l (.lst (ns.map V.int))) σ (Γ.set i (mkS io (.abs (feedA (ns, f.2))))) ∧ Ext G H G (upd H l (.lst (ns.map V.int)))) ∧
      (∀ l' (ns : List Int), H l' = none → Sta K G (upd (upd H l' (.lst (ns.map V.int))) d (.dK (fdK l' f.2.1 f.2.2))) σ (Γ.set i (mkS io (.abs (feedA (ns, f.2))))) ∧ Ext G H G (upd (upd H l' (.lst (ns.map V.int))) d (.dK (fdK l' f.2.1 f.2.2)))) := by
  obtain ⟨A, T⟩ := S
  have hlt : i < Γ.length := (List.getElem?_eq_some_iff.mp hi).1
  have key : ∃ d l, σ[i]? = some (some (.ref d)) ∧ A i = [d, l] ∧ d ≠ l ∧ H d = some (.dK (fdK l f.2.1 f.2.2)) ∧ H l = some (.lst (f.1.map V.int)) ∧
      ∀ (G' : Gh) (H' : Hp) (f' : Fd) (fp' : List Addr), G'.I = G.I → G'.H0 = G.H0 → (feedA f').ok K H' (.ref d) fp' → (∀ p ∈ fp', p ∈ A i ∨ G.H0 p = none) → SlOk K G' H' i σ[i]? fp' (mkS io (.abs (feedA f'))) := by
    have hs := T.sl i _ hi
    cases io with
    | true =>
      obtain ⟨v, h1, h2, d, l, rfl, h3, h4, h5, h6⟩ := hs
      exact ⟨d, l, h1, h3, h4, h5, h6, fun G' H' f' fp' gi _ ok _ => ⟨_, h1, by rw [gi]; exact h2, ok⟩⟩
    | false =>
      obtain ⟨v, h1, h2, d, l, rfl, h3, h4, h5, h6⟩ := hs
      refine ⟨d, l, h1, h3, h4, h5, h6, fun G' H' f' fp' _ g0 ok hp => ⟨_, h1, fun p hp' => ?_, ok⟩⟩
      rw [g0]
      rcases hp p hp' with q | q
      · exact h2 p q
      · exact q
  obtain ⟨d, l, h1, hA, hne, hd, hl, mk⟩ := key
  have ad := T.al i d (by rw [hA]; simp)
  have al := T.al i l (by rw [hA]; simp)
  refine ⟨d, l, h1, hne, hd, hl, fun t s => ?_, fun ns => ?_, fun l' ns hl' => ?_⟩
  · refine T.step (i := i) (fp' := [d, l]) (grow_mut T.w hd ad.2.1 (fun _ => by simp) (fun _ _ => by simp)) (fun p hp => by rw [hA]; simp at hp; simp [hp]) (fun _ _ => rfl) rfl (fun _ => mk _ _ _ _ rfl rfl ⟨d, l, rfl, rfl, hne, upd_same, by rw [upd_ne (Ne.symm hne)]; exact hl⟩ fun p hp => .inl (by rw [hA]; exact hp)) (fun p hp => ?_)
    simp only [List.mem_cons, List.not_mem_nil, or_false] at hp
    rcases hp with rfl | rfl
    · exact ⟨by rw [upd_same]; simp, ad.2.1, .inl (by rw [hA]; simp)⟩
    · exact ⟨by rw [upd_ne (Ne.symm hne), hl]; simp, al.2.1, .inl (by rw [hA]; simp)⟩
  · refine T.step (i := i) (fp' := [d, l]) (grow_mut T.w hl al.2.1 (fun _ => by simp) (fun _ _ => by simp)) (fun p hp => by rw [hA]; simp at hp; simp [hp]) (fun _ _ => rfl) rfl (fun _ => mk _ _ _ _ rfl rfl ⟨d, l, rfl, rfl, hne, by rw [upd_ne hne]; exact hd, upd_same⟩ fun p hp => .inl (by rw [hA]; exact hp)) (fun p hp => ?_)
    simp only [List.mem_cons, List.not_mem_nil, or_false] at hp
    rcases hp with rfl | rfl
    · exact ⟨by rw [upd_ne hne, hd]; simp, ad.2.1, .inl (by rw [hA]; simp)⟩
    · exact ⟨by rw [upd_same]; simp, al.2.1, .inl (by rw [hA]; simp)⟩
  · obtain ⟨fN, f0, _⟩ := T.w.fresh hl'
    have hdl : d ≠ l' := fun e => by rw [e, hl'] at hd; cases hd
    have g : Grow G H G.N (upd (upd H l' (.lst (ns.map V.int))) d (.dK (fdK l' f.2.1 f.2.2))) [d] := by
      refine ⟨fun a x e hp => ?_, fun a ha => ?_, fun a xs e => ?_, fun _ _ e => e, fun a x e => ⟨?_, .inl e⟩⟩
      · have h2 : a ≠ d := by simpa using hp
        have h3 : a ≠ l' := fun q => by rw [q, hl'] at e; cases e
        rw [upd_ne h2, upd_ne h3]; exact e
      · have : a = d := by simpa using ha
        rw [this, upd_same]; simp
      · have h3 : a ≠ l' := fun q => by rcases e with e | ⟨_, e⟩ <;> rw [q, hl'] at e <;> cases e
        have h2 : a ≠ d := fun q => by rcases e with e | ⟨_, e⟩ <;> rw [q, hd] at e <;> cases e
        rcases e with e | ⟨y, e⟩
        · exact .inl (by rw [upd_ne h2, upd_ne h3]; exact e)
        · exact .inr ⟨y, by rw [upd_ne h2, upd_ne h3]; exact e⟩
      · have h2 : a ≠ d := fun q => by rw [q, ad.2.1] at e; cases e
        have h3 : a ≠ l' := fun q => by rw [q, fN] at e; cases e
        rw [upd_ne h2, upd_ne h3]; exact (T.w.new a x e).1
    refine T.step (i := i) (fp' := [d, l']) g (fun p hp => by rw [hA]; simp at hp; simp [hp]) (fun _ _ => rfl) rfl (fun _ => mk _ _ _ _ rfl rfl ⟨d, l', rfl, rfl, hdl, upd_same, by rw [upd_ne (Ne.symm hdl), upd_same]⟩ fun p hp => ?_) (fun p hp => ?_)
    · simp only [List.mem_cons, List.not_mem_nil, or_false] at hp
      rcases hp with rfl | rfl
      · exact .inl (by rw [hA]; simp)
      · exact .inr f0
    · simp only [List.mem_cons, List.not_mem_nil, or_false] at hp
      rcases hp with rfl | rfl
      · exact ⟨by rw [upd_same]; simp, ad.2.1, .inl (by rw [hA]; simp)⟩
      · exact ⟨by rw [upd_ne (Ne.symm hdl), upd_same]; simp, fN, .inr hl'⟩
section
variable {X : Cx} {W : WX} {sc : Scope} {N : List Str} {o e : Expr} {pos p p2 p3 : Pos} {Γ : List Sl} {f : Fd} {i : Nat} {io : Bool}
theorem u1 (C : Cf X W sc N) : X.A.units + 1 < cLine := by have := C.hu2; omega
theorem evp_fdT (C : Cf X W sc N) {j : Nat} (ho : EvP X W Γ o (.s i)) (hi : Γ[i]? = some (mkS io (.abs (feedA f)))) (hs : NoSl (.Constant (.str "turn") j p2) := by exact fun _ _ => rfl) : EvP X W Γ (.Subscript o (.Constant (.str "turn") j p2) pos) (.d true (.int f.2.1)) :=
  pe_imp (pe_dget (u1 C) ho (pe_str (x := "turn")) hs) fun σ H Q ⟨G, S, q⟩ => ⟨G, S, fun G1 H1 e1 v S1 hv => by
    obtain ⟨d, l, h1, h2, h3, h4, _⟩ := S1.feed i io hi
    have hv : σ[i]? = some (some v) := hv
    rw [h1] at hv
    cases hv
    exact ⟨d, .int f.2.1, rfl, .inl ⟨_, .inr "turn", .inl h3, rfl, rfl⟩, q G1 H1 e1 _ S1 (.int _)⟩⟩
theorem evp_fdS (C : Cf X W sc N) {j : Nat} (ho : EvP X W Γ o (.s i)) (hi : Γ[i]? = some (mkS io (.abs (feedA f)))) (hs : NoSl (.Constant (.str "seed") j p2) := by exact fun _ _ => rfl) : EvP X W Γ (.Subscript o (.Constant (.str "seed") j p2) pos) (.d true (.int f.2.2)) :=
  pe_imp (pe_dget (u1 C) ho (pe_str (x := "seed")) hs) fun σ H Q ⟨G, S, q⟩ => ⟨G, S, fun G1 H1 e1 v S1 hv => by
    obtain ⟨d, l, h1, h2, h3, h4, _⟩ := S1.feed i io hi
    have hv : σ[i]? = some (some v) := hv
    rw [h1] at hv
    cases hv
    exact ⟨d, .int f.2.2, rfl, .inl ⟨_, .inr "seed", .inl h3, rfl, rfl⟩, q G1 H1 e1 _ S1 (.int _)⟩⟩
theorem evp_fd0 (C : Cf X W sc N) {j j2 : Nat} {n : Int} (ho : EvP X W Γ o (.s i)) (hi : Γ[i]? = some (mkS io (.abs (feedA f)))) (hc : atI f.1 0 = some n) (hs : NoSl (.Constant (.str "cells") j p2) := by exact fun _ _ => rfl) (hs2 : PlainIx (.Constant (.int 0) j2 p3) := by exact fun _ _ => rfl) : EvP X W Γ (.Subscript (.Subscript o (.Constant (.str "cells") j p2) p) (.Constant (.int 0) j2 p3) pos) (.d true (.int n)) :=
  pe_imp (pe_ix ix_list (pe_dget (u1 C) ho (pe_str (x := "cells")) hs) pe_int hs2) fun σ H Q ⟨G, S, q⟩ => ⟨G, S, fun G1 H1 e1 v S1 hv => by
    obtain ⟨d, l, h1, h2, h3, h4, _⟩ := S1.feed i io hi
    have hv : σ[i]? = some (some v) := hv
    rw [h1] at hv
    cases hv
    refine ⟨d, .ref l, rfl, .inl ⟨_, .inr "cells", .inl h3, rfl, rfl⟩, l, _, 0, .int n, rfl, rfl, SqL.of h4, ?_, q G1 H1 e1 _ S1 (.int _)⟩
    have := atI_map (f := V.int) (xs := f.1) (i := 0)
    rw [this, hc]
    rfl⟩
theorem evp_fdN (C : Cf X W sc N) {j : Nat} (ho : EvP X W Γ o (.s i)) (hi : Γ[i]? = some (mkS io (.abs (feedA f)))) (hs : NoSl (.Constant (.str "cells") j p2) := by exact fun _ _ => rfl) (hm : behindInMarks .NotEq (.List [] p3) = false := by first | exact nobehind _ (by decide) (by decide) | rfl) : EvP X W Γ (.Compare (.Subscript o (.Constant (.str "cells") j p2) p) [.NotEq] [.List [] p3] pos) (.d true (.bool (!decide (f.1 = ([] : List Int))))) :=
  pe_imp (pe_cmpR (op_neD C.hu) (pe_dget (u1 C) ho (pe_str (x := "cells")) hs) (pe_lst pa_nil) hm) fun σ H Q ⟨G, S, q⟩ => ⟨G, S, fun G1 H1 e1 v S1 hv => by
    obtain ⟨d, l, h1, h2, h3, h4, _⟩ := S1.feed i io hi
    have hv : σ[i]? = some (some v) := hv
    rw [h1] at hv
    cases hv
    refine ⟨d, .ref l, rfl, .inl ⟨_, .inr "cells", .inl h3, rfl, rfl⟩, Nat.zero_le _, fun a ha => ?_⟩
    have hla : l ≠ a := fun z => by rw [z, ha] at h4; cases h4
    obtain ⟨S2, e2⟩ := Sta.grow S1 (grow_own (o := .lst []) S1.w ha)
    refine ⟨.list (f.1.map PyData.int), .list [], .lst (SqL.of (by rw [upd_ne hla]; exact h4)) (ints_dna (G := RgH _) f.1).dp, .lst (SqL.of upd_same) .nil, (eqt_list eqt_int).sh (by decide) f.1, (eqt_list eqt_int).sh (by decide) [], ?_⟩
    have := (eqt_list eqt_int).eq f.1 []
    have this : PyData.eqv (.list (f.1.map PyData.int)) (.list []) = decide (f.1 = []) := this
    rw [this]
    exact q _ _ (e1.tr e2) _ S2 (.bl _)⟩
variable {ω φ ε β : Type} {view : ω → Fl φ ε} {Γf : φ → List Sl} {Xf : ε → Xo} {rest : List Stmt} {m : R β} {Γ1 : β → List Sl} {k : β → R ω} {ff : β → Fd} {n : β → Int} {fr : Bool}
theorem ex_fdT (C : Cf X W sc N) {j : Nat} (i : Nat) (io : Bool) (he : Ev X W Γ e m (fun r => .d fr (.int (n r))) Γ1) (ho : ∀ r, EvP X W (Γ1 r) o (.s i)) (hi : ∀ r, (Γ1 r)[i]? = some (mkS io (.abs (feedA (ff r)))))
    (hr : ∀ r, Ex X W ((Γ1 r).set i (mkS io (.abs (feedA ((ff r).1, n r, (ff r).2.2))))) rest (k r) view Γf Xf) (hs : swapsWith e (some (.Subscript o (.Constant (.str "turn") j p2) p)) pos.line X.env = pure false := by rfl) :
    Ex X W Γ (.Assign [.Subscript o (.Constant (.str "turn") j p2) p] e pos :: rest) (m.bind k) view Γf Xf :=
  pss_imp (pss_cons (ps_dput (u1 C) (pe_any ho) (pe_str (x := "turn")) he hs) (pss_any hr)) fun D σ H ⟨G, S, q⟩ => ⟨G, S, (PstS.bind q).imp fun r G1 H1 e1 q1 v S1 hv => ⟨r, G1, S1, fun G2 H2 e2 u S2 hu => by
    obtain ⟨d, l, h1, h2, h3, h4, h5, _⟩ := S2.feed i io (hi r)
    have hu : σ[i]? = some (some u) := hu
    rw [h1] at hu
    cases hu
    have hv := dn_int hv
    obtain ⟨S3, e3⟩ := h5 (n r) (ff r).2.2
    exact ⟨d, _, rfl, .inl ⟨_, .inr "turn", h3, rfl, (by decide : 3 < sizeLine), rfl⟩, r, G2, by rw [hv]; exact S3, by rw [hv]; exact PstS.ext q1 (e2.tr e3)⟩⟩⟩
theorem ex_fdS (C : Cf X W sc N) {j : Nat} (i : Nat) (io : Bool) (he : Ev X W Γ e m (fun r => .d fr (.int (n r))) Γ1) (ho : ∀ r, EvP X W (Γ1 r) o (.s i)) (hi : ∀ r, (Γ1 r)[i]? = some (mkS io (.abs (feedA (ff r)))))
    (hr : ∀ r, Ex X W ((Γ1 r).set i (mkS io (.abs (feedA ((ff r).1, (ff r).2.1, n r))))) rest (k r) view Γf Xf) (hs : swapsWith e (some (.Subscript o (.Constant (.str "seed") j p2) p)) pos.line X.env = pure false := by rfl) :
    Ex X W Γ (.Assign [.Subscript o (.Constant (.str "seed") j p2) p] e pos :: rest) (m.bind k) view Γf Xf :=
  pss_imp (pss_cons (ps_dput (u1 C) (pe_any ho) (pe_str (x := "seed")) he hs) (pss_any hr)) fun D σ H ⟨G, S, q⟩ => ⟨G, S, (PstS.bind q).imp fun r G1 H1 e1 q1 v S1 hv => ⟨r, G1, S1, fun G2 H2 e2 u S2 hu => by
    obtain ⟨d, l, h1, h2, h3, h4, h5, _⟩ := S2.feed i io (hi r)
    have hu : σ[i]? = some (some u) := hu
    rw [h1] at hu
    cases hu
    have hv := dn_int hv
    obtain ⟨S3, e3⟩ := h5 (ff r).2.1 (n r)
    exact ⟨d, _, rfl, .inl ⟨_, .inr "seed", h3, rfl, (by decide : 3 < sizeLine), rfl⟩, r, G2, by rw [hv]; exact S3, by rw [hv]; exact PstS.ext q1 (e2.tr e3)⟩⟩⟩
theorem ex_fd0 (C : Cf X W sc N) {j j2 : Nat} {tpos : Pos} (i : Nat) (io : Bool) (he : Ev X W Γ e m (fun r => .d fr (.int (n r))) Γ1) (ho : ∀ r, EvP X W (Γ1 r) o (.s i)) (hi : ∀ r, (Γ1 r)[i]? = some (mkS io (.abs (feedA (ff r)))))
    (hr : ∀ r, Ex X W ((Γ1 r).set i (mkS io (.abs (feedA ((ff r).1.set 0 (n r), (ff r).2))))) rest (k r) view Γf Xf) (hs0 : NoSl (.Constant (.str "cells") j p2) := by exact fun _ _ => rfl)
    (has : ∀ v, assign (.Subscript (.Subscript o (.Constant (.str "cells") j p2) p) (.Constant (.int 0) j2 p3) tpos) X.env v = (do
      let ov ← holding [v] (eval (.Subscript o (.Constant (.str "cells") j p2) p) X.env)
      let iv ← holding [v, ov] (eval (.Constant (.int 0) j2 p3) X.env)
      standAt tpos
      holding [v, ov, iv] (setItem ov iv v)
      release [v, ov, iv] []) := by intro _; rfl)
    (hs : swapsWithSole [.Subscript (.Subscript o (.Constant (.str "cells") j p2) p) (.Constant (.int 0) j2 p3) tpos] e pos.line X.env = pure false := by rfl) (hw : swappedStores [.Subscript (.Subscript o (.Constant (.str "cells") j p2) p) (.Constant (.int 0) j2 p3) tpos] e X.env = pure none := by rfl) (h1 : (assignEach [.Subscript (.Subscript o (.Constant (.str "cells") j p2) p) (.Constant (.int 0) j2 p3) tpos] X.env).map (·.2) = [assign (.Subscript (.Subscript o (.Constant (.str "cells") j p2) p) (.Constant (.int 0) j2 p3) tpos) X.env] := by rfl) :
    Ex X W Γ (.Assign [.Subscript (.Subscript o (.Constant (.str "cells") j p2) p) (.Constant (.int 0) j2 p3) tpos] e pos :: rest) (m.bind fun r => (R.req (!decide ((ff r).1 = ([] : List Int)))).bind fun _ => k r) view Γf Xf :=
  pss_imp (pss_cons (ps_asg he (pg_sub (pe_dget (u1 C) (pe_any ho) (pe_str (x := "cells")) hs0) pe_int set_list has) hs hw h1) (pss_any hr)) fun D σ H ⟨G, S, q⟩ => ⟨G, S, (PstS.bind q).imp fun r G1 H1 e1 q1 v S1 hv => ⟨r, G1, S1, fun G2 H2 e2 u S2 hu => by
    obtain ⟨d, l, h1, h2, h3, h4, _, h5, _⟩ := S2.feed i io (hi r)
    have hu : σ[i]? = some (some u) := hu
    rw [h1] at hu
    cases hu
    have hv := dn_int hv
    have hc : (!decide ((ff r).1 = ([] : List Int))) = true ∧ PstS X W G1 H1 (k r) (fun w G' H' => Fin X.K G' H' D Γf Xf (view w)) := by
      cases hq : (!decide ((ff r).1 = ([] : List Int))) with
      | true => exact ⟨rfl, fun σ' => by have := q1 σ'; rw [hq] at this; exact this⟩
      | false => have := q1 σ; rw [hq] at this; exact this.elim
    obtain ⟨hne, q2⟩ := hc
    obtain ⟨S3, e3⟩ := h5 ((ff r).1.set 0 (n r))
    have hlen : ixN ((ff r).1.map V.int).length 0 = some 0 := by
      cases hz : (ff r).1 with
      | nil => rw [hz] at hne; simp at hne
      | cons a as => exact ixN0 (by simp)
    rw [List.map_set, ← hv] at S3 e3
    exact ⟨d, .ref l, rfl, .inl ⟨_, .inr "cells", .inl h3, rfl, rfl⟩, l, _, 0, 0, rfl, rfl, h4, hlen, r, G2, S3, PstS.ext q2 (e2.tr e3)⟩⟩⟩
theorem pe_nm (C : Cf X W sc N) {i : Nat} {x : Str} {pos : Pos} (hN : N[i]? = some x) (hv : visB sc x = true) (hd : (x == ("__debug__" : Str)) = false := by decide +kernel) (hcd : (x == ("__classdict__" : Str)) = false := by decide +kernel) : PE X (.Name x pos) (tVar i) :=
  pe_var (i := i) (by rw [C.hN]; exact hN) (by rw [C.hsc]; exact vis_of hv) hd hcd
theorem cut1 (xs : List Int) : cutV (xs.map V.int) (some 1) none = (xs.drop 1).map V.int := by
  unfold cutV
  rw [HT.sIx_none]
  have : HT.sIx (xs.map V.int).length 0 (some 1) = min 1 (xs.map V.int).length := HT.sIx_nat _ _ 1
  rw [this]
  cases xs with
  | nil => rfl
  | cons x xs =>
    have e : (List.map V.int (x :: xs)).length = xs.length + 1 := by simp
    rw [e, Nat.min_eq_left (by omega)]
    show List.take (xs.length + 1 - 1) (List.map V.int xs) = List.map V.int xs
    have e2 : xs.length + 1 - 1 = (List.map V.int xs).length := by simp
    rw [e2, List.take_length]
theorem ex_fdC (C : Cf X W sc N) {j j2 j3 : Nat} {p4 p5 p6 p7 : Pos} {k : R ω} (i : Nat) (io : Bool) (ho : PE X o (tVar i)) (ho2 : PE X e (tVar i)) (hi : Γ[i]? = some (mkS io (.abs (feedA f))))
    (hr : Ex X W (Γ.set i (mkS io (.abs (feedA (f.1.drop 1, f.2))))) rest k view Γf Xf) (hs0 : NoSl (.Constant (.str "cells") j2 p4) := by exact fun _ _ => rfl)
    (hs : swapsWith (.Subscript (.Subscript e (.Constant (.str "cells") j2 p4) p5) (.Slice (some (.Constant (.int 1) j3 p6)) none none p3) p7) (some (.Subscript o (.Constant (.str "cells") j p2) p)) pos.line X.env = pure false := by rfl) :
    Ex X W Γ (.Assign [.Subscript o (.Constant (.str "cells") j p2) p] (.Subscript (.Subscript e (.Constant (.str "cells") j2 p4) p5) (.Slice (some (.Constant (.int 1) j3 p6)) none none p3) p7) pos :: rest) k view Γf Xf :=
  pss_imp (pss_cons (ps_dput (u1 C) ho (pe_str (x := "cells")) (pe_slice sl_list (pe_dget (u1 C) ho2 (pe_str (x := "cells")) hs0) (po_some pe_int) po_none) hs) hr) fun D σ H ⟨G, S, q⟩ => by
    obtain ⟨d, l, h1, h2, h3, h4, _, _, h5⟩ := S.feed i io hi
    refine ⟨.ref d, h1, d, .ref l, rfl, .inl ⟨_, .inr "cells", .inl h3, rfl, rfl⟩, 1, rfl, l, _, rfl, SqL.of h4, fun a ha => ⟨.ref d, h1, ?_⟩⟩
    obtain ⟨S3, e3⟩ := h5 a (f.1.drop 1) ha
    have hda : d ≠ a := fun z => by rw [z, ha] at h3; cases h3
    refine ⟨d, _, rfl, .inl ⟨fdK l f.2.1 f.2.2, .inr "cells", by rw [upd_ne hda]; exact h3, rfl, (by decide : 3 < sizeLine), rfl⟩, G, ?_, ?_⟩
    · rw [cut1, fd_pcells]; exact S3
    · rw [cut1, fd_pcells]; exact PstS.ext q e3
/-! making a feed -/
def spFd (K : PySem.W.Frag) : Sp := fun vs H Q _ => ∃ ns : List Int, DnA K (RgH H) H vs [.list (ns.map PyData.int)] ∧ ns.length ≤ 63 ∧ ∀ H' l d, Same H H' → H' l = none → H' d = none → d ≠ l → Q (.ref d) (upd (upd H' l (.lst (ns.map V.int))) d (.dK (fdK l 0 0)))
theorem upd3 {H : Hp} {p l : Addr} {a b c : HO} : upd (upd (upd H p a) l b) p c = upd (upd H l b) p c := by
  funext q
  by_cases h : q = p
  · subst h; rw [upd_same, upd_same]
  · rw [upd_ne h, upd_ne h]
    by_cases h2 : q = l
    · subst h2; rw [upd_same, upd_same]
    · rw [upd_ne h2, upd_ne h2, upd_ne h]
theorem cut63 (xs : List Int) (h : xs.length ≤ 63) : cutV (xs.map V.int) none (some 63) = xs.map V.int := by
  unfold cutV
  rw [HT.sIx_none]
  have : HT.sIx (xs.map V.int).length (xs.map V.int).length (some 63) = min 63 (xs.map V.int).length := HT.sIx_nat _ _ 63
  rw [this]
  have hl : (xs.map V.int).length = xs.length := by simp
  rw [hl, List.drop_zero, Nat.min_eq_right h, Nat.sub_zero, ← hl, List.take_length]
end
theorem fn_feed {P : Program} {w : World} {K : PySem.W.Frag} {mg : Str → Option Value} {base : Heap} {x qual : Str} {params : Arguments} {body : List Stmt} {scope : Scope} {f : Addr} {fd : FuncData} (F : FunD K x qual params body scope [] [] f fd) (S : FnScope ["_law_script"] ["_law_script"] scope)
    {p1 p2 p3 p4 p5 p6 p7 p8 p9 q1 q2 q3 q4 : Pos} {j1 j2 j3 j4 j5 j6 : Nat}
    (hb : body = [.Return (some (.Dict [some (.Constant (.str "cells") j1 p1), some (.Constant (.str "turn") j2 p2), some (.Constant (.str "seed") j3 p3)] [.Call (.Name "list" p4) [.Subscript (.Name "_law_script" p5) (.Slice none (some (.Constant (.int 63) j4 p6)) none p7) p8] [] p9, .Constant (.int 0) j5 q1, .Constant (.int 0) j6 q2] q3)) q4])
    (hm : mg "list" = none) (hg : glB scope "list" = true) (hv : visB scope "_law_script" = true) : FnOk P w K mg base (L2.CX P w) 1 f fd ["_law_script"] (spFd K) := by
  refine F.ok S (fun vs H Q E ⟨ns, h, _⟩ => h.length) fun cdv A outer s H vs Q E hr hsp => ?_
  obtain ⟨ns, hd, hl, hq⟩ := hsp
  have h := here_of (P := P) (w := w) (K := K) (mg := mg) (base := base) (qual := qual) (f := f) (outer := outer) (H := H) (E := E) S hr
  have C := h.cf
  subst hb
  obtain ⟨v, rfl, hv'⟩ := dna_one hd
  obtain ⟨l, xs, rfl, g1, g2⟩ := dn_list hv'
  rw [dna_ints g2] at g1
  refine ⟨_, pss_one (ps_ret (pe_disp (pps_cons pe_str (pe_callTy call_list_of (C.gl hg) hm PyProof.Rows.boot_list (pa_cons (pe_slice sl_list (pe_nm C (i := 0) rfl hv) po_none (po_some pe_int)) pa_nil (by rfl)) (by decide +kernel) (by decide +kernel) (by rfl) (by rfl)) (pps_cons pe_str pe_int (pps_cons pe_str pe_int pps_nil))) rfl rfl (by simp) (by simp))), ?_⟩
  intro p hp
  refine ⟨.ref l, rfl, 63, rfl, l, _, rfl, (same_upd hp).seq g1.sq, fun q hq0 => ?_⟩
  rw [cut63 ns hl]
  have hpq : p ≠ q := fun e => by rw [e, upd_same] at hq0; cases hq0
  have hq1 : H q = none := by rw [← hq0, upd_ne (Ne.symm hpq)]
  refine ⟨q, _, rfl, .inl (SqL.of upd_same), fun l' hl' => ?_⟩
  have hpl : p ≠ l' := fun e => by rw [e, upd_ne (e ▸ hpq), ← e, upd_same] at hl'; cases hl'
  have hql : q ≠ l' := fun e => by rw [e, upd_same] at hl'; cases hl'
  refine ⟨by rw [upd_ne hpl, upd_ne hpq, upd_same], fdK l' 0 0, rfl, (by decide : 3 ≤ 15), ?_⟩
  have hl1 : H l' = none := by rw [← hl', upd_ne (Ne.symm hql), upd_ne (Ne.symm hpl)]
  have := hq (upd H q (.lst (ns.map V.int))) l' p (same_upd hq1) (by rw [upd_ne (Ne.symm hql)]; exact hl1) (by rw [upd_ne hpq]; exact hp) hpl
  have e : upd (upd (upd (upd H p (.dK [])) q (.lst (ns.map V.int))) l' (.lst (ns.map V.int))) p (.dK (mergeK [] (fdK l' 0 0))) = upd (upd (upd H q (.lst (ns.map V.int))) l' (.lst (ns.map V.int))) p (.dK (fdK l' 0 0)) := by
    funext z
    by_cases h1 : z = p
    · subst h1; rw [upd_same, upd_same]; rfl
    · rw [upd_ne h1, upd_ne h1]
      by_cases h2 : z = l'
      · subst h2; rw [upd_same, upd_same]
      · rw [upd_ne h2, upd_ne h2]
        by_cases h3 : z = q
        · subst h3; rw [upd_same, upd_same]
        · rw [upd_ne h3, upd_ne h3, upd_ne h1]
  rw [e]
  exact this
theorem Sta.putFeed {K : PySem.W.Frag} {G : Gh} {H : Hp} {σ : St} {Γ : List Sl} {d l : Addr} {ns : List Int} (s : Sta K G H σ Γ) (i : Nat) (hl : H l = none) (hd : H d = none) (hne : d ≠ l) :
    Sta K G (upd (upd H l (.lst (ns.map V.int))) d (.dK (fdK l 0 0))) (σ.set i (some (.ref d))) (Γ.set i (.own (.abs (feedA (ns, 0, 0))))) ∧ Ext G H G (upd (upd H l (.lst (ns.map V.int))) d (.dK (fdK l 0 0))) := by
  obtain ⟨A, S⟩ := s
  obtain ⟨hN, h0, _⟩ := S.w.fresh hd
  obtain ⟨hN', h0', _⟩ := S.w.fresh hl
  have g : Grow G H G.N (upd (upd H l (.lst (ns.map V.int))) d (.dK (fdK l 0 0))) [] := by
    have ne : ∀ a o, H a = some o → a ≠ d ∧ a ≠ l := fun a o e => by
      constructor
      · intro q; rw [q, hd] at e; cases e
      · intro q; rw [q, hl] at e; cases e
    refine ⟨fun a x e _ => ?_, fun a ha => absurd ha (by simp), fun a xs e => ?_, fun _ _ e => e, fun a x e => ⟨?_, .inl e⟩⟩
    · rw [upd_ne (ne a x e).1, upd_ne (ne a x e).2]; exact e
    · rcases e with e | ⟨y, e⟩
      · exact .inl (by rw [upd_ne (ne a _ e).1, upd_ne (ne a _ e).2]; exact e)
      · exact .inr ⟨y, by rw [upd_ne (ne a _ e).1, upd_ne (ne a _ e).2]; exact e⟩
    · have e := (S.w.new a x e).1
      rw [upd_ne (ne a x e).1, upd_ne (ne a x e).2]; exact e
  refine S.step (i := i) (fp' := [d, l]) g (fun p hp => absurd hp (by simp)) (fun j hj => List.getElem?_set_ne (Ne.symm hj)) (List.length_set ..) (fun hlt => ⟨.ref d, set_at (by rw [← S.len]; exact hlt), fun q hq => ?_, d, l, rfl, rfl, hne, upd_same, by rw [upd_ne (Ne.symm hne), upd_same]⟩) (fun q hq => ?_)
  · simp only [List.mem_cons, List.not_mem_nil, or_false] at hq
    rcases hq with rfl | rfl
    · exact h0
    · exact h0'
  · simp only [List.mem_cons, List.not_mem_nil, or_false] at hq
    rcases hq with rfl | rfl
    · exact ⟨by rw [upd_same]; simp, hN, .inr hd⟩
    · exact ⟨by rw [upd_ne (Ne.symm hne), upd_same]; simp, hN', .inr hl⟩
section
variable {X : Cx} {W : WX} {sc : Scope} {N : List Str} {e : Expr} {pos p p2 p' : Pos} {Γ : List Sl} {ω φ ε : Type} {view : ω → Fl φ ε} {Γf : φ → List Sl} {Xf : ε → Xo} {rest : List Stmt} {k : R ω}
theorem ex_setFd (C : Cf X W sc N) (i : Nat) {x y : Str} {A : AV} {ns : List Int} (hc : Clee X y [] (spFd X.K)) (hg : glB sc y = true) (hN : N[i]? = some x) (hv : Sto X sc x) (he : EvP X W Γ e A) (hA : Rdb Γ A (.list (ns.map PyData.int)))
    (hr : Ex X W (Γ.set i (.own (.abs (feedA (ns, 0, 0))))) rest k view Γf Xf) (hdb : (y == ("__debug__" : Str)) = false := by decide +kernel) (hst : starEach [e] X.env = (false, eval e X.env) :: starEach [] X.env := by rfl) (hpl : (backTo p2 (starEach [] X.env)).any (·.1) = false := by rfl)
    (hs : swapsWith (.Call (.Name y p) [e] [] p2) (some (.Name x p')) pos.line X.env = pure false := by rfl) :
    Ex X W Γ (.Assign [.Name x p'] (.Call (.Name y p) [e] [] p2) pos :: rest) ((R.req (decide (ns.length ≤ 63))).bind fun _ => k) view Γf Xf := by
  obtain ⟨kk, f, fd, ps, dss, F, hrm, hm, hk, hb, hd⟩ := hc
  have hx : Loc X.env.scope x := by rw [C.hsc]; exact hv.1
  refine ex_req fun hl => ?_
  have hl := of_decide_eq_true hl
  have h1 : PS X (.Assign [.Name x p'] (.Call (.Name y p) [e] [] p2) pos) _ := ps_set (i := i) (by rw [C.hN]; exact C.nd) (by rw [C.hN]; exact hN) hx (pe_callSD (E := fun σ cls d H => W cls d σ H) F hrm (C.gl hg) hm hk hb hd (fun σ => passAt C.tk σ) (pa_cons he pa_nil hst) hdb hst hpl) hs (by rw [C.hsc]; exact hv.2)
  refine pss_imp (pss_cons h1 hr) fun D σ H ⟨G, S, q⟩ => ⟨G, S, fun G1 H1 e1 v S1 hv => ?_⟩
  refine ⟨ns, .cons (hA.ok S1 hv) .nil, hl, fun H' l d sm hl' hd' hne => ?_⟩
  obtain ⟨G', S', e', _⟩ := call_end (N' := fun _ => none) S1 sm (fun a o h => by cases h)
  obtain ⟨S2, e2⟩ := S'.putFeed (ns := ns) i hl' hd' hne
  exact ⟨G', S2, PstS.ext q ((e1.tr e').tr e2)⟩
theorem Gv.cFd {P : Program} {w : World} {K : PySem.W.Frag} {mg : Str → Option Value} {base : Heap} {k k' : Nat} {x : Str} {dvs : List V} {scope : Scope} (g : Gv P w K mg base k x dvs (spFd K)) (h : Here X W P w K mg base scope N k') (hk : k ≤ k') : Clee X x dvs (spFd X.K) := by
  have := g.clee h hk
  rw [h.K]
  exact this
end
end PD


set_option Elab.async false
set_option linter.all false
set_option maxRecDepth 100000
set_option maxHeartbeats 4000000
set_option autoImplicit false
namespace PD
open PySem L2
section
variable {X : Cx} {W : WX} {sc : Scope} {N : List Str} {e tg : Expr} {pos p : Pos} {Γ : List Sl} {ω φ ε : Type} {view : ω → Fl φ ε} {Γf : φ → List Sl} {Xf : ε → Xo} {rest : List Stmt}
/-- a target of names = e -/
theorem ex_asgT {α β : Type} {m : R β} {Γ1 : β → List Sl} {k : β → R ω} {enc : α → PyData} {fr : Bool} {ts : List Nat} {f : α → List Sl → List Sl} {x : β → α} (he : Ev X W Γ e m (fun r => .d fr (enc (x r))) Γ1) (ht : Tgt X tg enc fr ts f) (hr : ∀ r, Ex X W (f (x r) (Γ1 r)) rest (k r) view Γf Xf)
    (hs : swapsWithSole [tg] e pos.line X.env = pure false := by rfl) (hw : swappedStores [tg] e X.env = pure none := by rfl) (h1 : (assignEach [tg] X.env).map (·.2) = [assign tg X.env] := by rfl) :
    Ex X W Γ (.Assign [tg] e pos :: rest) (m.bind k) view Γf Xf :=
  pss_imp (pss_cons (ps_asg he ht hs hw h1) (pss_any hr)) fun D σ H ⟨G, S, q⟩ => ⟨G, S, (PstS.bind q).imp fun r G1 H1 e1 q1 v S1 hv => ⟨G1, Γ1 r, x r, S1, hv, fun σ' _ _ S2 => ⟨r, G1, S2, q1⟩⟩⟩
theorem ex_asgTP {α : Type} {k : R ω} {enc : α → PyData} {fr : Bool} {ts : List Nat} {f : α → List Sl → List Sl} (x : α) (he : EvP X W Γ e (.d fr (enc x))) (ht : Tgt X tg enc fr ts f) (hr : Ex X W (f x Γ) rest k view Γf Xf)
    (hs : swapsWithSole [tg] e pos.line X.env = pure false := by rfl) (hw : swappedStores [tg] e X.env = pure none := by rfl) (h1 : (assignEach [tg] X.env).map (·.2) = [assign tg X.env] := by rfl) :
    Ex X W Γ (.Assign [tg] e pos :: rest) k view Γf Xf := ex_asgT (m := R.val ()) (k := fun _ => k) (x := fun _ => x) he ht (fun _ => hr) hs hw h1
theorem evp_gint (C : Cf X W sc N) {x : Str} {i : Int} {pos : Pos} (hg : glB sc x = true) (hm : ∃ t, X.mg x = some (.int i t)) (hdb : (x == ("__debug__" : Str)) = false := by decide +kernel) : EvP X W Γ (.Name x pos) (.d true (.int i)) := by
  obtain ⟨t, h⟩ := hm
  exact evp_glob C hg h (v := .int i) ⟨t, rfl⟩ (fun _ _ => .int i) hdb
def ndI (ns : List Int) : Bool := lt64 ns && decide ns.Nodup
/-- len(set(x)) of a list of unlike whole numbers -/
theorem ev_lenSet (C : Cf X W sc N) {α : Type} {ma : R α} {Γ1 : α → List Sl} {fr : Bool} {ns : α → List Int} {a : Expr} {p2 q : Pos} (hg : glB sc "len" = true) (hm : X.mg "len" = none) (hg2 : glB sc "set" = true) (hm2 : X.mg "set" = none) (ha : Ev X W Γ a ma (fun r => .d fr (.list ((ns r).map PyData.int))) Γ1)
    (na : starEach [a] X.env = (false, eval a X.env) :: starEach [] X.env := by rfl) :
    Ev X W Γ (.Call (.Name "len" p) [.Call (.Name "set" p2) [a] [] q] [] pos) (ma.bind fun r => (R.req (ndI (ns r))).bind fun _ => .val r) (fun r => .d true (.int ((ns r).length : Nat))) Γ1 :=
  pe_imp (pe_lenSetI C.calm (C.gl hg) hm (C.gl hg2) hm2 ha na) fun σ H Q ⟨G, S, q⟩ => ⟨G, S, (Pst.bind q).imp fun r G1 H1 e1 q1 v S1 hv => by
    obtain ⟨hc, q2⟩ := Pst.req q1
    unfold ndI at hc
    rw [Bool.and_eq_true] at hc
    obtain ⟨l, xs, rfl, g1, g2⟩ := dn_list hv
    rw [dna_ints g2] at g1
    exact ⟨l, ns r, rfl, (g1.mono (S1.w.rgl _)).sq, of_decide_eq_true hc.1, of_decide_eq_true hc.2, q2 G1 H1 (Ext.rf S1.w) _ S1 (.int _)⟩⟩
end
end PD


set_option Elab.async false
set_option linter.all false
set_option maxRecDepth 100000
set_option maxHeartbeats 4000000
set_option autoImplicit false
namespace PD
open PySem L2
section
variable {X : Cx} {W : WX} {sc : Scope} {N : List Str} {a b : Expr} {pos : Pos} {Γ : List Sl} {α β γ δ : Type} {ma : R α} {ava : α → AV} {Γa : α → List Sl} {mb : α → R β} {avb : α → β → AV} {Γb : α → β → List Sl} {Γk : γ → List Sl}
/-- a[b], a data or a list of one's own, read behind both -/
theorem ev_ixR {f1 : Bool} {enc : δ → PyData} {xs : α → β → List δ} {n : α → β → Int} (ha : Ev X W Γ a ma ava Γa) (hb : ∀ x, Ev X W (Γa x) b (mb x) (avb x) (Γb x)) (r1 : ∀ x y, RdF (Γb x y) f1 (ava x) (.list ((xs x y).map enc))) (r2 : ∀ x y, Rdb (Γb x y) (avb x y) (.int (n x y)))
    (kk : α → β → δ → γ) (vk : γ → δ) (h1 : ∀ x y z, vk (kk x y z) = z := by intros; rfl) (h2 : ∀ x y z, Γk (kk x y z) = Γb x y := by intros; rfl) (hs : PlainIx b := by exact fun _ _ => rfl) :
    Ev X W Γ (.Subscript a b pos) (ma.bind fun x => (mb x).bind fun y => (R.ofO (atI (xs x y) (n x y))).bind fun z => .val (kk x y z)) (fun q => .d f1 (enc (vk q))) Γk :=
  pe_imp (pe_ix ix_seq ha (pe_any fun x => hb x) hs) fun σ H Q h => bin_rd (X := X) (W := W) (ava := ava) (Γa := Γa) (avb := avb) (Γb := Γb) (k := fun x y => (R.ofO (atI (xs x y) (n x y))).bind fun z => .val (kk x y z)) (fun x y G H σ u v Q S hu hv p => by
    obtain ⟨l, vs, rfl, g1, g2⟩ := (r1 x y).seqL S hu
    have hv := dn_int ((r2 x y).ok S hv)
    cases hz : atI (xs x y) (n x y) with
    | none => rw [hz] at p; exact p.elim
    | some z =>
      rw [hz] at p
      have hz' : atI ((xs x y).map enc) (n x y) = some (enc z) := by rw [atI_map, hz]; rfl
      obtain ⟨w, g3, g4⟩ := atI_dn g2 hz'
      exact .inl ⟨l, vs, n x y, w, rfl, hv, g1, g3, p G H (Ext.rf S.w) w (by rw [h2]; exact S) (by rw [h1]; exact g4)⟩) h
theorem ev_lenM (C : Cf X W sc N) {e : Expr} {p : Pos} {fr : Bool} {ds : α → List PyData} {n : α → Int} (hm : X.mg "len" = none) (hg : glB sc "len" = true) (ha : Ev X W Γ e ma (fun r => .d fr (.list (ds r))) Γa) (hn : ∀ r, ((ds r).length : Int) = n r) (hst : starEach [e] X.env = (false, eval e X.env) :: starEach [] X.env := by rfl) :
    Ev X W Γ (.Call (.Name "len" p) [e] [] pos) ma (fun r => .d true (.int (n r))) Γa := by
  have h := SemA.m (γ := Int × α) (sa_len (p := p) (pos := pos) C hg hm hst) (eva_cons (as := fun r : α => [.d fr (.list (ds r))]) (Γk := Γa) (fun r _ => r) ha (fun _ => eva_nil) (fun _ _ => rfl) (fun _ _ => rfl) hst) (ds := fun r => [.list (ds r)]) (fun r => .d .nil) (fun r z => (z, r)) (fun q => q.1) (fun q => Γa q.2)
  refine pe_imp h fun σ H Q ⟨G, S, q⟩ => ⟨G, S, ?_⟩
  cases ma with
  | bad => exact q
  | exc x => exact q
  | val r =>
    intro G' H' e' w S' hw
    exact q G' H' e' w S' (by show Dn _ _ _ _ (.int (n r)); rw [← hn r]; exact hw)
theorem ev_lenMT (C : Cf X W sc N) {e : Expr} {p : Pos} {fr : Bool} {ds : α → List PyData} {n : α → Int} (hm : X.mg "len" = none) (hg : glB sc "len" = true) (ha : Ev X W Γ e ma (fun r => .d fr (.tuple (ds r))) Γa) (hn : ∀ r, ((ds r).length : Int) = n r) (hst : starEach [e] X.env = (false, eval e X.env) :: starEach [] X.env := by rfl) :
    Ev X W Γ (.Call (.Name "len" p) [e] [] pos) ma (fun r => .d true (.int (n r))) Γa := by
  have h := SemA.m (γ := Int × α) (sa_len (p := p) (pos := pos) C hg hm hst) (eva_cons (as := fun r : α => [.d fr (.tuple (ds r))]) (Γk := Γa) (fun r _ => r) ha (fun _ => eva_nil) (fun _ _ => rfl) (fun _ _ => rfl) hst) (ds := fun r => [.tuple (ds r)]) (fun r => .d .nil) (fun r z => (z, r)) (fun q => q.1) (fun q => Γa q.2)
  refine pe_imp h fun σ H Q ⟨G, S, q⟩ => ⟨G, S, ?_⟩
  cases ma with
  | bad => exact q
  | exc x => exact q
  | val r =>
    intro G' H' e' w S' hw
    exact q G' H' e' w S' (by show Dn _ _ _ _ (.int (n r)); rw [← hn r]; exact hw)
end
section
variable {X : Cx} {W : WX} {sc : Scope} {N : List Str} {Γ : List Sl} {x : Str} {es : List Expr} {e : Expr} {pos p : Pos} {dvs : List V} {dds : List PyData} {α τ ρ γ : Type} {ma : R α} {as1 as2 as : α → List AV} {Γ1 : α → List Sl} {a1 a2 : τ → List PyData} {c : τ → Cl} {m : τ → R ρ} {res : ρ → Rs} {c' : ρ → Cl}
theorem ev_callCM (C : Cf X W sc N) (hc : Clee X x dvs (spC X.K X.mg a1 c a2 m res c')) (hfl : ∀ t, m t ≠ .bad → (c t).fl = true) (hg : glB sc x = true) (i : Nat) (io : Bool) (ha : EvA X W Γ (e :: es) ma as Γ1) (hdv : ∀ G H, DnA X.K G H dvs dds) (tt : α → τ) (as1 as2 : α → List AV) (has : ∀ a, as a = as1 a ++ .s i :: as2 a)
    (hi : ∀ a, (Γ1 a)[i]? = some (if io then .io (c (tt a)) else .own (c (tt a)))) (h1 : ∀ a, ArC (Γ1 a) i (as1 a) (a1 (tt a))) (h2 : ∀ a, ∃ ds, ArC (Γ1 a) i (as2 a) ds ∧ ds ++ dds = a2 (tt a))
    (kk : α → ρ → γ) (enc : γ → PyData) (Γk : γ → List Sl) (hne : ∀ t z, m t ≠ .exc z) (h3 : ∀ a r, res r = .d (enc (kk a r)) := by intros; rfl) (h4 : ∀ a r, Γk (kk a r) = (Γ1 a).set i (if io then .io (c' r) else .own (c' r)) := by intros; rfl)
    (hdb : (x == ("__debug__" : Str)) = false := by decide +kernel) (he : starEach (e :: es) X.env = (false, eval e X.env) :: starEach es X.env := by rfl) (hpl : (backTo pos (starEach es X.env)).any (·.1) = false := by rfl) :
    Ev X W Γ (.Call (.Name x p) (e :: es) [] pos) (ma.bind fun a => (m (tt a)).bind fun r => .val (kk a r)) (fun z => .d true (enc z)) Γk := by
  have e1 : as = fun a => as1 a ++ .s i :: as2 a := funext has
  subst e1
  exact ev_callC C hc hfl hg i io ha hdv tt hi h1 h2 kk enc Γk h3 h4 hdb he hpl hne
theorem evf_callCM (C : Cf X W sc N) (hc : Clee X x dvs (spC X.K X.mg a1 c a2 m res c')) (hfl : ∀ t, m t ≠ .bad → (c t).fl = true) (hg : glB sc x = true) (i : Nat) (io : Bool) (ha : EvA X W Γ (e :: es) ma as Γ1) (hdv : ∀ G H, DnA X.K G H dvs dds) (tt : α → τ) (as1 as2 : α → List AV) (has : ∀ a, as a = as1 a ++ .s i :: as2 a)
    (hi : ∀ a, (Γ1 a)[i]? = some (if io then .io (c (tt a)) else .own (c (tt a)))) (h1 : ∀ a, ArC (Γ1 a) i (as1 a) (a1 (tt a))) (h2 : ∀ a, ∃ ds, ArC (Γ1 a) i (as2 a) ds ∧ ds ++ dds = a2 (tt a))
    (kk : α → ρ → γ) (enc : γ → List PyData) (Γk : γ → List Sl) (hne : ∀ t z, m t ≠ .exc z) (h3 : ∀ a r, res r = .f (enc (kk a r)) := by intros; rfl) (h4 : ∀ a r, Γk (kk a r) = (Γ1 a).set i (if io then .io (c' r) else .own (c' r)) := by intros; rfl)
    (hdb : (x == ("__debug__" : Str)) = false := by decide +kernel) (he : starEach (e :: es) X.env = (false, eval e X.env) :: starEach es X.env := by rfl) (hpl : (backTo pos (starEach es X.env)).any (·.1) = false := by rfl) :
    EvF X W Γ (.Call (.Name x p) (e :: es) [] pos) (ma.bind fun a => (m (tt a)).bind fun r => .val (kk a r)) enc Γk := by
  have e1 : as = fun a => as1 a ++ .s i :: as2 a := funext has
  subst e1
  exact evf_callC C hc hfl hg i io ha hdv tt hi h1 h2 kk enc Γk h3 h4 hdb he hpl hne
end
end PD


set_option linter.all false
set_option maxRecDepth 100000
set_option autoImplicit false
/-! plain: what a mirror answers -/
namespace PD
open PySem L2
def Ok {α : Type} (m : R α) (P : α → Prop) : Prop := ∃ a, m = .val a ∧ P a
section
variable {α β S : Type} {P : α → Prop} {Q : β → Prop}
theorem ok_val {a : α} (h : P a) : Ok (.val a) P := ⟨a, rfl, h⟩
theorem ok_bind {m : R α} {k : α → R β} (h : Ok m P) (hk : ∀ a, P a → Ok (k a) Q) : Ok (m.bind k) Q := by
  obtain ⟨a, rfl, p⟩ := h
  exact hk a p
theorem Ok.mono {P' : α → Prop} {m : R α} (h : Ok m P) (hk : ∀ a, P a → P' a) : Ok m P' := by
  obtain ⟨a, e, p⟩ := h
  exact ⟨a, e, hk a p⟩
theorem ok_bindV {a : α} {k : α → R β} (h : Ok (k a) Q) : Ok ((R.val a).bind k) Q := h
theorem ok_req {c : Bool} {k : Unit → R β} (hc : c = true) (h : Ok (k ()) Q) : Ok ((R.req c).bind k) Q := by
  subst hc
  exact h
theorem ok_ofO {o : Option α} {a : α} {k : α → R β} (hc : o = some a) (h : Ok (k a) Q) : Ok ((R.ofO o).bind k) Q := by
  subst hc
  exact h
theorem ok_of {m : R α} {a : α} (h : m = .val a) (p : P a) : Ok m P := ⟨a, h, p⟩
theorem ok_eq {m : R α} {a : α} (h : Ok m fun z => z = a) : m = .val a := by
  obtain ⟨b, e, rfl⟩ := h
  exact e
theorem ok_bindE {m : R α} {a : α} {k : α → R β} (e : m = .val a) (h : Ok (k a) Q) : Ok (m.bind k) Q := by
  subst e
  exact h
theorem ok_iteT {c : Prop} [Decidable c] {m1 m2 : R α} (hc : c) (h : Ok m1 P) : Ok (if c then m1 else m2) P := by rw [if_pos hc]; exact h
theorem ok_iteF {c : Prop} [Decidable c] {m1 m2 : R α} (hc : ¬ c) (h : Ok m2 P) : Ok (if c then m1 else m2) P := by rw [if_neg hc]; exact h
theorem ok_ite {c : Prop} [Decidable c] {m1 m2 : R α} (h1 : c → Ok m1 P) (h2 : ¬ c → Ok m2 P) : Ok (if c then m1 else m2) P := by
  by_cases h : c
  · exact ok_iteT h (h1 h)
  · exact ok_iteF h (h2 h)
/-- a loop: what holds behind the items gone through -/
theorem ok_fold {step : S → α → R S} (I : List α → S → Prop) : ∀ (xs pre : List α) (s : S), I pre s → (∀ p x q s, pre ++ xs = p ++ x :: q → I p s → Ok (step s x) (I (p ++ [x]))) → Ok (R.fold step xs s) (I (pre ++ xs))
  | [], pre, s, h, _ => ok_val (by simpa using h)
  | x :: xs, pre, s, h, hs => by
    unfold R.fold
    refine ok_bind (hs pre x xs s rfl h) fun s' h' => ?_
    have e : pre ++ x :: xs = (pre ++ [x]) ++ xs := by simp
    rw [e]
    exact ok_fold I xs (pre ++ [x]) s' h' fun p y q s e' => hs p y q s (by rw [e]; exact e')
theorem ok_fold0 {step : S → α → R S} {xs : List α} {s : S} (I : List α → S → Prop) (h : I [] s) (hs : ∀ p x q s, xs = p ++ x :: q → I p s → Ok (step s x) (I (p ++ [x]))) : Ok (R.fold step xs s) (I xs) := by
  have := ok_fold I xs [] s h (fun p x q s e => hs p x q s (by simpa using e))
  simpa using this
/-- loops that fall through -/
theorem ok_loop {ε : Type} {step : S → α → R (Fl S (Lx S ε))} (I : List α → S → Prop) : ∀ (xs pre : List α) (s : S), I pre s → (∀ p x q s, pre ++ xs = p ++ x :: q → I p s → Ok (step s x) (fun w => ∃ s', w = .nx s' ∧ I (p ++ [x]) s')) →
    Ok (loopV (fun w => w) step xs s) (fun w => ∃ s', w = .nx s' ∧ I (pre ++ xs) s')
  | [], pre, s, h, _ => ok_val ⟨s, rfl, by simpa using h⟩
  | x :: xs, pre, s, h, hs => by
    unfold loopV
    refine ok_bind (hs pre x xs s rfl h) fun w ⟨s', hw, h'⟩ => ?_
    subst hw
    have e : pre ++ x :: xs = (pre ++ [x]) ++ xs := by simp
    rw [e]
    exact ok_loop I xs (pre ++ [x]) s' h' fun p y q s e' => hs p y q s (by rw [e]; exact e')
theorem ok_loopU {ε ω : Type} {step : Unit → α → R (Fl Unit (Lx Unit ε))} {xs : List α} {mR : Unit → R ω} {inj : ε → ω} {P : ω → Prop} (hs : ∀ x ∈ xs, Ok (step () x) (fun w => w = .nx ())) (hr : Ok (mR ()) P) : Ok ((loopV (fun w => w) step xs ()).bind (contV mR inj)) P := by
  refine ok_bind (ok_loop (fun _ _ => True) xs [] () trivial fun p x q s e _ => ?_) fun w ⟨s', hw, _⟩ => ?_
  · exact (hs x (by simp at e; rw [e]; simp)).mono fun w h => ⟨(), h, trivial⟩
  · subst hw
    exact hr
/-- a comprehension with a state -/
theorem ok_compR {τ ρ : Type} {tt : S → α → R τ} {bt : τ → Bool} {st : τ → S} {te : τ → α → R ρ} {se : ρ → S} {out : ρ → β} (I : List α → List β → S → Prop) : ∀ (xs pre : List α) (ys : List β) (s : S), I pre ys s →
    (∀ p x q ys s, pre ++ xs = p ++ x :: q → I p ys s → Ok (tt s x) (fun t => if bt t = true then Ok (te t x) (fun z => I (p ++ [x]) (ys ++ [out z]) (se z)) else I (p ++ [x]) ys (st t))) →
    Ok (compR tt bt st te se out xs s) (fun r => I (pre ++ xs) (ys ++ r.2) r.1)
  | [], pre, ys, s, h, _ => ok_val (by simpa using h)
  | x :: xs, pre, ys, s, h, hs => by
    rw [compR_cons]
    obtain ⟨t, e, p⟩ := hs pre x xs ys s rfl h
    rw [e]
    show Ok (if bt t = true then _ else _) _
    have e1 : pre ++ x :: xs = (pre ++ [x]) ++ xs := by simp
    have hs' : ∀ p y q ys s, (pre ++ [x]) ++ xs = p ++ y :: q → I p ys s → Ok (tt s y) (fun t => if bt t = true then Ok (te t y) (fun z => I (p ++ [y]) (ys ++ [out z]) (se z)) else I (p ++ [y]) ys (st t)) := fun p y q ys s e' => hs p y q ys s (by rw [e1]; exact e')
    by_cases hb : bt t = true
    · rw [if_pos hb] at p ⊢
      obtain ⟨z, ez, pz⟩ := p
      rw [ez]
      show Ok ((compR tt bt st te se out xs (se z)).bind fun r => R.val (r.1, out z :: r.2)) _
      refine ok_bind (ok_compR I xs (pre ++ [x]) (ys ++ [out z]) (se z) pz hs') fun r hr => ok_val ?_
      rw [e1]
      simpa using hr
    · rw [if_neg hb] at p ⊢
      rw [e1]
      exact ok_compR I xs (pre ++ [x]) ys (st t) p hs'
/-- without a state -/
theorem ok_comp {t : α → R Bool} {e : α → R β} {b : α → Bool} {v : α → β} : ∀ {xs : List α}, (∀ x ∈ xs, t x = .val (b x)) → (∀ x ∈ xs, b x = true → e x = .val (v x)) → R.comp t e xs = .val ((xs.filter b).map v)
  | [], _, _ => rfl
  | x :: xs, h1, h2 => by
    rw [R.comp, h1 x (by simp), ok_comp (fun y hy => h1 y (by simp [hy])) (fun y hy => h2 y (by simp [hy]))]
    show (if b x = true then _ else _) = _
    cases hb : b x with
    | true =>
      rw [if_pos rfl, h2 x (by simp) hb, List.filter_cons_of_pos hb]
      rfl
    | false =>
      rw [if_neg (by simp), List.filter_cons_of_neg (by rw [hb]; simp)]
end
theorem szB_of {α : Type} {xs : List α} (h : xs.length ≤ 100000) : szB xs = true := decide_eq_true (Nat.le_trans h (by decide))
theorem ltS_of {α : Type} {xs : List α} (h : xs.length < 100000) : ltS xs = true := decide_eq_true (Nat.lt_of_lt_of_le h (by decide))
theorem cRng_of {lo hi : Int} (h1 : -(2 ^ 40) ≤ lo) (h2 : lo ≤ 2 ^ 40) (h3 : -(2 ^ 40) ≤ hi) (h4 : hi ≤ 2 ^ 40) : cRng lo hi = true := decide_eq_true ⟨by omega, by omega, by omega, by omega⟩
theorem rng_mem {lo hi x : Int} : x ∈ rng lo hi ↔ lo ≤ x ∧ x < hi := by
  unfold rng
  simp only [List.mem_map, List.mem_range]
  constructor
  · rintro ⟨i, hi, rfl⟩
    omega
  · intro h
    exact ⟨(x - lo).toNat, by omega, by omega⟩
theorem rng_len {lo hi : Int} : (rng lo hi).length = (hi - lo).toNat := by unfold rng; simp
theorem rng_get {lo hi : Int} {i : Nat} (h : i < (hi - lo).toNat) : (rng lo hi)[i]? = some (lo + i) := by
  unfold rng
  simp [h]
theorem rng_rise (lo hi : Int) : (rng lo hi).Pairwise (· < ·) := by
  unfold rng
  rw [List.pairwise_map]
  refine List.pairwise_iff_getElem.mpr fun i j hi hj hij => ?_
  simp
  omega
/-- the place of an item of a list that is gone through -/
theorem rng_split {lo hi x : Int} {p q : List Int} (h : rng lo hi = p ++ x :: q) : x = lo + p.length ∧ (p.length : Int) < hi - lo := by
  have hl : p.length < (rng lo hi).length := by rw [h]; simp
  rw [rng_len] at hl
  have e := rng_get hl
  rw [h] at e
  simp at e
  omega
theorem enum_split {α : Type} {xs : List α} {z : Int × α} {p q : List (Int × α)} (h : enumI xs = p ++ z :: q) : z.1 = p.length ∧ xs[p.length]? = some z.2 := by
  have hl : p.length < (enumI xs).length := by rw [h]; simp
  have e : (enumI xs)[p.length]? = some z := by rw [h]; simp
  unfold enumI at e hl
  rw [List.getElem?_mapIdx] at e
  simp at hl
  rw [List.getElem?_eq_getElem hl] at e
  simp at e
  rw [List.getElem?_eq_getElem hl]
  subst e
  exact ⟨rfl, rfl⟩
theorem enum_len {α : Type} (xs : List α) : (enumI xs).length = xs.length := by unfold enumI; simp
/-- a subscript in the bounds -/
theorem atI_ok {α : Type} {xs : List α} {i : Int} {x : α} (h0 : 0 ≤ i) (h : xs[i.toNat]? = some x) : atI xs i = some x := by
  have hl : i.toNat < xs.length := (List.getElem?_eq_some_iff.mp h).1
  unfold atI ixN
  rw [if_pos h0, if_pos (by omega)]
  exact h
end PD


set_option linter.all false
set_option maxRecDepth 100000
set_option autoImplicit false
/-! plain: masks as sets of places -/
namespace PD
open PySem L2
theorem band_pos {x y : Int} (hx : 0 ≤ x) (hy : 0 ≤ y) : Builtin.bitAnd x y = ((x.toNat &&& y.toNat : Nat) : Int) := by
  unfold Builtin.bitAnd
  rw [decide_eq_true hx, decide_eq_true hy]
theorem bor_pos {x y : Int} (hx : 0 ≤ x) (hy : 0 ≤ y) : Builtin.bitOr x y = ((x.toNat ||| y.toNat : Nat) : Int) := bitOr_nn hx hy
/-- a mask of k places, its places those of S -/
structure Msk (k : Nat) (m : Int) (S : Nat → Prop) : Prop where
  nn : 0 ≤ m
  lt : m.toNat < 2 ^ k
  bit : ∀ j, m.toNat.testBit j = true ↔ S j
theorem Msk.iff {k : Nat} {m : Int} {S T : Nat → Prop} (h : Msk k m S) (e : ∀ j, S j ↔ T j) : Msk k m T := ⟨h.nn, h.lt, fun j => (h.bit j).trans (e j)⟩
theorem Msk.lt_of {k : Nat} {m : Int} {S : Nat → Prop} (h : Msk k m S) {j : Nat} (hj : S j) : j < k := by
  have hb := (h.bit j).mpr hj
  refine Nat.lt_of_not_le fun z => ?_
  have : m.toNat < 2 ^ j := Nat.lt_of_lt_of_le h.lt (Nat.pow_le_pow_right (by decide) z)
  rw [Nat.testBit_lt_two_pow this] at hb
  cases hb
theorem msk_zero (k : Nat) : Msk k 0 (fun _ => False) := ⟨by decide, by simp; exact Nat.two_pow_pos k, fun j => by simp⟩
theorem msk_one {k j : Nat} (h : j < k) : Msk k ((1 : Int) * 2 ^ j) (fun i => i = j) := by
  have e : ((1 : Int) * 2 ^ j) = ((2 ^ j : Nat) : Int) := by rw [Int.one_mul]; simp
  rw [e]
  refine ⟨Int.natCast_nonneg _, by rw [Int.toNat_natCast]; exact Nat.pow_lt_pow_right (by decide) h, fun i => ?_⟩
  rw [Int.toNat_natCast, Nat.testBit_two_pow]
  simp only [decide_eq_true_eq]
  exact eq_comm
theorem msk_or {k : Nat} {a b : Int} {S T : Nat → Prop} (ha : Msk k a S) (hb : Msk k b T) : Msk k (Builtin.bitOr a b) (fun j => S j ∨ T j) := by
  rw [bor_pos ha.nn hb.nn]
  refine ⟨Int.natCast_nonneg _, by rw [Int.toNat_natCast]; exact Nat.or_lt_two_pow ha.lt hb.lt, fun j => ?_⟩
  rw [Int.toNat_natCast, Nat.testBit_or, Bool.or_eq_true, ha.bit, hb.bit]
theorem msk_and {k k' : Nat} {a b : Int} {S T : Nat → Prop} (ha : Msk k a S) (hb : Msk k' b T) : Msk k (Builtin.bitAnd a b) (fun j => S j ∧ T j) := by
  rw [band_pos ha.nn hb.nn]
  refine ⟨Int.natCast_nonneg _, ?_, fun j => ?_⟩
  · rw [Int.toNat_natCast]
    exact Nat.lt_of_le_of_lt Nat.and_le_left ha.lt
  rw [Int.toNat_natCast, Nat.testBit_and, Bool.and_eq_true, ha.bit, hb.bit]
theorem nat_add_or : ∀ (n a b : Nat), a < n → a &&& b = 0 → a + b = a ||| b
  | 0, a, b, h, _ => absurd h (by omega)
  | n + 1, a, b, h, z => by
    by_cases ha : a = 0
    · subst ha; simp
    · have z2 : a / 2 &&& b / 2 = 0 := by
        apply Nat.eq_of_testBit_eq
        intro i
        rw [Nat.testBit_and, ← Nat.testBit_succ, ← Nat.testBit_succ, ← Nat.testBit_and, z]
        simp
      have ih := nat_add_or n (a / 2) (b / 2) (by omega) z2
      have z0 : ¬ (a % 2 = 1 ∧ b % 2 = 1) := fun ⟨h1, h2⟩ => by
        have := congrArg (fun x => x.testBit 0) z
        simp [Nat.testBit_and, Nat.testBit_zero, h1, h2] at this
      have o2 : (a ||| b) / 2 = a / 2 ||| b / 2 := by
        apply Nat.eq_of_testBit_eq
        intro i
        simp [Nat.testBit_or, Nat.testBit_div_two]
      have o0 : (a ||| b) % 2 = (if a % 2 = 1 ∨ b % 2 = 1 then 1 else 0) := by
        have t : (a ||| b).testBit 0 = (a.testBit 0 || b.testBit 0) := Nat.testBit_or a b 0
        simp only [Nat.testBit_zero] at t
        rcases Nat.mod_two_eq_zero_or_one (a ||| b) with q | q <;> by_cases hx : a % 2 = 1 <;> by_cases hy : b % 2 = 1 <;> simp [hx, hy, q] at t ⊢
      have h1 : a % 2 < 2 := Nat.mod_lt _ (by decide)
      have h2 : b % 2 < 2 := Nat.mod_lt _ (by decide)
      have e1 := Nat.div_add_mod a 2
      have e2 := Nat.div_add_mod b 2
      have e3 := Nat.div_add_mod (a ||| b) 2
      rw [o2, ← ih, o0] at e3
      split at e3 <;> omega
theorem msk_ext {k k' : Nat} {a b : Int} {S : Nat → Prop} (ha : Msk k a S) (hb : Msk k' b S) : a = b := by
  have h1 := ha.nn
  have h2 := hb.nn
  have : a.toNat = b.toNat := Nat.eq_of_testBit_eq fun i => by
    cases h : a.toNat.testBit i with
    | true => exact ((hb.bit i).mpr ((ha.bit i).mp h)).symm
    | false =>
      cases h' : b.toNat.testBit i with
      | true => rw [(ha.bit i).mpr ((hb.bit i).mp h')] at h; cases h
      | false => rfl
  omega
/-- what is left of a mask -/
theorem msk_sub {k : Nat} {a b : Int} {S T : Nat → Prop} (ha : Msk k a S) (hb : Msk k b T) (h : ∀ j, T j → S j) : Msk k (a - b) (fun j => S j ∧ ¬ T j) := by
  classical
  have e : (a.toNat ^^^ b.toNat) &&& b.toNat = 0 := by
    apply Nat.eq_of_testBit_eq
    intro i
    rw [Nat.testBit_and, Nat.testBit_xor]
    cases h1 : b.toNat.testBit i with
    | false => simp
    | true => rw [(ha.bit i).mpr (h i ((hb.bit i).mp h1))]; simp
  have e2 : (a.toNat ^^^ b.toNat) + b.toNat = a.toNat := by
    rw [nat_add_or _ _ _ (Nat.lt_succ_self _) e]
    apply Nat.eq_of_testBit_eq
    intro i
    rw [Nat.testBit_or, Nat.testBit_xor]
    cases h1 : b.toNat.testBit i with
    | false => simp
    | true => rw [(ha.bit i).mpr (h i ((hb.bit i).mp h1))]; simp
  have h1 := ha.nn
  have h2 := hb.nn
  have e3 : (a - b).toNat = a.toNat ^^^ b.toNat := by omega
  refine ⟨by omega, ?_, fun j => ?_⟩
  · rw [e3]
    have := ha.lt
    omega
  · rw [e3, Nat.testBit_xor]
    have x1 := ha.bit j
    have x2 := hb.bit j
    cases h3 : a.toNat.testBit j <;> cases h4 : b.toNat.testBit j <;> simp [h3, h4] at x1 x2 ⊢ <;> first | exact fun z => absurd z x1 | exact absurd (h j x2) x1 | exact ⟨x1, x2⟩ | exact fun _ => x2
theorem msk_none {k : Nat} {a : Int} {S : Nat → Prop} (ha : Msk k a S) : a = 0 ↔ ∀ j, ¬ S j := by
  constructor
  · rintro rfl j hj
    have := (ha.bit j).mpr hj
    simp at this
  · intro h
    exact msk_ext (ha.iff fun j => ⟨fun z => h j z, False.elim⟩) (msk_zero k)
/-! the places of a mask, rising -/
def bitsFrom (a : Nat) : Nat → Nat → List Int
  | 0, _ => []
  | n + 1, x => if x = 0 then [] else (if x % 2 = 1 then [(a : Int)] else []) ++ bitsFrom (a + 1) n (x / 2)
theorem bitsFrom_mem {y : Int} : ∀ {n a x : Nat}, x < n → (y ∈ bitsFrom a n x ↔ ∃ j : Nat, x.testBit j = true ∧ y = (a + j : Nat))
  | 0, _, _, h => absurd h (by omega)
  | n + 1, a, x, h => by
    unfold bitsFrom
    by_cases hx : x = 0
    · subst hx; simp
    · rw [if_neg hx, List.mem_append, bitsFrom_mem (n := n) (a := a + 1) (x := x / 2) (by omega)]
      constructor
      · rintro (z | ⟨j, h1, h2⟩)
        · split at z
          · next h1 => exact ⟨0, by simp [Nat.testBit_zero, h1], by simpa using z⟩
          · simp at z
        · exact ⟨j + 1, by rw [Nat.testBit_succ]; exact h1, by rw [h2]; congr 1; omega⟩
      · rintro ⟨j, h1, h2⟩
        cases j with
        | zero =>
          rw [Nat.testBit_zero] at h1
          simp at h1
          left
          rw [if_pos h1]
          simpa using h2
        | succ j => exact .inr ⟨j, by rw [Nat.testBit_succ] at h1; exact h1, by rw [h2]; congr 1; omega⟩
theorem bitsFrom_rise : ∀ {n a x : Nat}, (bitsFrom a n x).Pairwise (· < ·) ∧ ∀ y ∈ bitsFrom a n x, (a : Int) ≤ y
  | 0, _, _ => ⟨.nil, by simp [bitsFrom]⟩
  | n + 1, a, x => by
    obtain ⟨h1, h2⟩ := bitsFrom_rise (n := n) (a := a + 1) (x := x / 2)
    unfold bitsFrom
    by_cases hx : x = 0
    · simp [hx]
    · rw [if_neg hx]
      split
      · refine ⟨List.pairwise_cons.mpr ⟨fun y hy => ?_, h1⟩, fun y hy => ?_⟩
        · have := h2 y hy
          omega
        · rcases List.mem_cons.mp hy with z | z
          · omega
          · have := h2 y z
            omega
      · refine ⟨by simpa using h1, fun y hy => ?_⟩
        have := h2 y (by simpa using hy)
        omega
theorem bitsFrom_len : ∀ {k n a x : Nat}, x < 2 ^ k → (bitsFrom a n x).length ≤ k
  | k, 0, _, _, _ => by simp [bitsFrom]
  | 0, n + 1, a, x, h => by
    have : x = 0 := by omega
    simp [bitsFrom, this]
  | k + 1, n + 1, a, x, h => by
    have := bitsFrom_len (k := k) (n := n) (a := a + 1) (x := x / 2) (by rw [Nat.pow_succ] at h; omega)
    unfold bitsFrom
    split
    · simp
    · split <;> simp <;> omega
/-- the rising list of a set of places -/
def Rise (xs : List Int) (S : Nat → Prop) : Prop := xs.Pairwise (· < ·) ∧ ∀ y : Int, y ∈ xs ↔ ∃ j : Nat, S j ∧ y = j
theorem Rise.ext {xs ys : List Int} {S : Nat → Prop} (h : Rise xs S) (h' : Rise ys S) : xs = ys := rise_ext h.1 h'.1 fun k => (h.2 k).trans (h'.2 k).symm
theorem Rise.nil {xs : List Int} {S : Nat → Prop} (h : Rise xs S) : xs = [] ↔ ∀ j, ¬ S j := by
  constructor
  · rintro rfl j hj
    exact absurd ((h.2 j).mpr ⟨j, hj, rfl⟩) (by simp)
  · intro z
    cases hx : xs with
    | nil => rfl
    | cons y ys =>
      obtain ⟨j, h1, _⟩ := (h.2 y).mp (by rw [hx]; simp)
      exact absurd h1 (z j)
end PD


set_option linter.all false
set_option maxRecDepth 100000
set_option autoImplicit false
/-! plain: what comes of what -/
namespace PD
open PySem L2
def NetOk (net : List (List Int)) : Prop := ∀ (k : Nat) (row : List Int), net[k]? = some row → (∀ e ∈ row, 0 ≤ e ∧ e < (k : Int)) ∧ row.Pairwise (· < ·)
inductive Anc (net : List (List Int)) : Nat → Nat → Prop
  | rf (i : Nat) : Anc net i i
  | st {i k j : Nat} {row : List Int} : net[i]? = some row → ((k : Nat) : Int) ∈ row → Anc net k j → Anc net i j
theorem anc_iff {net : List (List Int)} {i j : Nat} {row : List Int} (h : net[i]? = some row) : Anc net i j ↔ j = i ∨ ∃ k : Nat, ((k : Nat) : Int) ∈ row ∧ Anc net k j := by
  constructor
  · intro a
    cases a with
    | rf => exact .inl rfl
    | st h1 h2 h3 => rw [h] at h1; cases h1; exact .inr ⟨_, h2, h3⟩
  · rintro (rfl | ⟨k, h2, h3⟩)
    · exact .rf _
    · exact .st h h2 h3
theorem anc_le {net : List (List Int)} (hn : NetOk net) {i j : Nat} (h : Anc net i j) : j ≤ i := by
  induction h with
  | rf => exact Nat.le_refl _
  | st h1 h2 _ ih =>
    have := ((hn _ _ h1).1 _ h2).2
    omega
/-- a row of answers -/
def RowOk (n : Nat) (row : List Bool) (S : Nat → Prop) : Prop := row.length = n ∧ ∀ (j : Nat) (b : Bool), row[j]? = some b → (b = true ↔ S j)
theorem RowOk.iff {n : Nat} {row : List Bool} {S T : Nat → Prop} (h : RowOk n row S) (e : ∀ j, S j ↔ T j) : RowOk n row T := ⟨h.1, fun j b z => (h.2 j b z).trans (e j)⟩
theorem RowOk.at {n : Nat} {row : List Bool} {S : Nat → Prop} (h : RowOk n row S) {j : Nat} (hj : j < n) : ∃ b, row[j]? = some b ∧ (b = true ↔ S j) := by
  have : j < row.length := by rw [h.1]; exact hj
  exact ⟨row[j], List.getElem?_eq_getElem this, h.2 j _ (List.getElem?_eq_getElem this)⟩
theorem row_is {n : Nat} {i : Int} : RowOk n (List.map (fun x : Int => decide (x = i)) (List.filter (fun _ => true) (rng 0 (n : Int)))) (fun j => (j : Int) = i) := by
  have e : List.filter (fun _ : Int => true) (rng 0 (n : Int)) = rng 0 (n : Int) := List.filter_eq_self.mpr fun _ _ => rfl
  rw [e]
  refine ⟨by rw [List.length_map, rng_len]; omega, fun j b z => ?_⟩
  rw [List.getElem?_map] at z
  by_cases hj : j < n
  · rw [rng_get (by omega)] at z
    simp at z
    rw [← z]
    simp
  · rw [List.getElem?_eq_none (by rw [rng_len]; omega)] at z
    cases z
theorem row_or {n : Nat} {a b : List Bool} {S T : Nat → Prop} (ha : RowOk n a S) (hb : RowOk n b T) : RowOk n (List.map (fun x : Bool × Bool => (x.1 || x.2)) (List.filter (fun _ => true) (List.zip a b))) (fun j => S j ∨ T j) := by
  have e : List.filter (fun _ : Bool × Bool => true) (List.zip a b) = List.zip a b := List.filter_eq_self.mpr fun _ _ => rfl
  rw [e]
  refine ⟨by rw [List.length_map, List.length_zip, ha.1, hb.1]; omega, fun j c z => ?_⟩
  rw [List.getElem?_map] at z
  cases h : (List.zip a b)[j]? with
  | none => rw [h] at z; cases z
  | some w =>
    rw [h] at z
    obtain ⟨h1, h2⟩ := List.getElem?_zip_eq_some.mp h
    have z : (w.1 || w.2) = c := Option.some.inj z
    rw [← z, Bool.or_eq_true, ha.2 j _ h1, hb.2 j _ h2]
theorem whl_bits {c : Int × List Int × Int → Bool} {step : Int × List Int × Int → R (Int × List Int × Int)} (hc : ∀ s, c s = decide (0 < s.1))
    (hs : ∀ (x a : Nat) (fd : List Int), fd.length < 100000 → step ((x : Int), fd, (a : Int)) = .val (((x / 2 : Nat) : Int), fd ++ (if x % 2 = 1 then [(a : Int)] else []), ((a + 1 : Nat) : Int))) :
    ∀ (n x a : Nat) (fd : List Int) (k : Nat), x < n → x < 2 ^ k → fd.length + k < 100000 → Ok (R.whl c step n ((x : Int), fd, (a : Int))) (fun s => s.2.1 = fd ++ bitsFrom a n x)
  | 0, x, a, fd, k, h, _, _ => absurd h (by omega)
  | n + 1, x, a, fd, k, h, h2, h3 => by
    unfold R.whl bitsFrom
    rw [hc]
    by_cases hx : x = 0
    · subst hx
      exact ok_iteF (by simp) (ok_val (by simp))
    · refine ok_iteT (decide_eq_true (by simp only; omega)) ?_
      rw [hs x a fd (by omega), if_neg hx]
      cases k with
      | zero => omega
      | succ k =>
        refine ok_bindV ((whl_bits hc hs n (x / 2) (a + 1) _ k (by omega) (by rw [Nat.pow_succ] at h2; omega) ?_).mono fun s e => by rw [e, List.append_assoc])
        rw [List.length_append]
        split <;> simp <;> omega
end PD


set_option linter.all false
set_option maxRecDepth 100000
set_option autoImplicit false
namespace PDW
open PySem L2 PD
theorem bind_v {α β : Type} (a : α) (k : α → R β) : (R.val a).bind k = k a := rfl
theorem ofO_s {α : Type} (a : α) : R.ofO (some a) = R.val a := rfl
theorem req_t {c : Bool} (h : c = true) : R.req c = R.val () := by rw [h]; rfl
theorem nox_v {α : Type} (a : α) : R.nox (R.val a) = R.val a := rfl
theorem Ok.ex {α : Type} {m : R α} {P : α → Prop} (h : Ok m P) : ∃ a, m = .val a ∧ P a := h
theorem any_int (x : Int) (xs : List Int) : ((xs.map PyData.int).any fun z => PyData.eqv z (.int x)) = decide (x ∈ xs) := by
  induction xs with
  | nil => simp
  | cons y ys ih =>
    rw [List.map_cons, List.any_cons, ih, eqt_int.eq]
    by_cases h : y = x
    · simp [h]
    · have h2 : ¬ x = y := fun e => h e.symm
      simp [h, h2]
theorem any_bool (x : Bool) (xs : List Bool) : ((xs.map PyData.bool).any fun z => PyData.eqv z (.bool x)) = decide (x ∈ xs) := by
  induction xs with
  | nil => simp
  | cons y ys ih =>
    rw [List.map_cons, List.any_cons, ih, eqt_bool.eq]
    by_cases h : y = x
    · simp [h]
    · have h2 : ¬ x = y := fun e => h e.symm
      simp [h, h2]
theorem inB_int (x : Int) (xs : List Int) : inB (.int x) (.list (xs.map PyData.int)) = some (decide (x ∈ xs)) := by
  have h1 : SeqAt.shaped (.int x) = true := eqt_int.sh (by decide) x
  have h2 : SeqAt.shaped (.list (xs.map PyData.int)) = true := (eqt_list eqt_int).sh (by decide) xs
  show (if SeqAt.shaped (.int x) && SeqAt.shaped (.list (xs.map PyData.int)) then some ((xs.map PyData.int).any fun z => PyData.eqv z (.int x)) else none) = _
  rw [h1, h2, any_int]
  rfl
theorem ninB_int (x : Int) (xs : List Int) : ninB (.int x) (.list (xs.map PyData.int)) = some (!decide (x ∈ xs)) := by
  unfold ninB
  rw [inB_int]
  rfl
theorem inB_bool (x : Bool) (xs : List Bool) : inB (.bool x) (.list (xs.map PyData.bool)) = some (decide (x ∈ xs)) := by
  have h1 : SeqAt.shaped (.bool x) = true := eqt_bool.sh (by decide) x
  have h2 : SeqAt.shaped (.list (xs.map PyData.bool)) = true := (eqt_list eqt_bool).sh (by decide) xs
  show (if SeqAt.shaped (.bool x) && SeqAt.shaped (.list (xs.map PyData.bool)) then some ((xs.map PyData.bool).any fun z => PyData.eqv z (.bool x)) else none) = _
  rw [h1, h2, any_bool]
  rfl
theorem filt_tt {α : Type} (xs : List α) : List.filter (fun _ => true) xs = xs := by induction xs <;> simp_all
/-- a loop that gathers -/
theorem fold_filter {α β : Type} {step : List β → α → R (List β)} {b : α → Bool} {f : α → β} : ∀ {xs : List α} {s : List β}, (∀ s x, x ∈ xs → s.length < 100000 → step s x = .val (if b x then s ++ [f x] else s)) → s.length + xs.length < 100000 → R.fold step xs s = .val (s ++ (xs.filter b).map f)
  | [], s, _, _ => by simp [R.fold]
  | x :: xs, s, h, hl => by
    simp only [List.length_cons] at hl
    rw [R.fold, h s x (by simp) (by omega), bind_v]
    cases hb : b x with
    | false =>
      rw [if_neg (by decide), fold_filter (fun s y hy => h s y (by simp [hy])) (by omega)]
      simp [hb]
    | true =>
      rw [if_pos rfl, fold_filter (fun s y hy => h s y (by simp [hy])) (by simp; omega)]
      simp [hb]
theorem enum_mem {α : Type} {xs : List α} {z : Int × α} : z ∈ enumI xs ↔ ∃ k : Nat, z.1 = k ∧ xs[k]? = some z.2 := by
  unfold enumI
  constructor
  · intro h
    obtain ⟨i, hi⟩ := List.mem_iff_getElem?.mp h
    rw [List.getElem?_mapIdx] at hi
    cases hx : xs[i]? with
    | none => rw [hx] at hi; simp at hi
    | some x => rw [hx] at hi; simp at hi; subst hi; exact ⟨i, rfl, hx⟩
  · rintro ⟨k, h1, h2⟩
    refine List.mem_iff_getElem?.mpr ⟨k, ?_⟩
    rw [List.getElem?_mapIdx, h2]
    obtain ⟨a, b⟩ := z
    simp only at h1
    subst h1
    rfl
theorem enum_fst {α : Type} (xs : List α) : (enumI xs).map (·.1) = rng 0 (xs.length : Int) := by
  apply List.ext_getElem?
  intro i
  unfold enumI
  rw [List.getElem?_map, List.getElem?_mapIdx]
  by_cases h : i < xs.length
  · rw [rng_get (by omega), List.getElem?_eq_getElem h]
    simp
  · rw [List.getElem?_eq_none (by omega), List.getElem?_eq_none (by rw [rng_len]; omega)]
    rfl
theorem enum_rise {α : Type} {xs : List α} {b : Int × α → Bool} {P : Nat → Prop} (h : ∀ (k : Nat) (x : α), xs[k]? = some x → (b ((k : Int), x) = true ↔ P k)) (hP : ∀ k, P k → k < xs.length) : Rise (((enumI xs).filter b).map fun x => x.1) P := by
  refine ⟨?_, fun y => ?_⟩
  · have h1 : ((enumI xs).map (·.1)).Pairwise (· < ·) := by rw [enum_fst]; exact rng_rise _ _
    exact h1.sublist (List.Sublist.map _ (List.filter_sublist))
  · rw [List.mem_map]
    constructor
    · rintro ⟨z, hz, rfl⟩
      obtain ⟨hz, hb⟩ := List.mem_filter.mp hz
      obtain ⟨k, e1, e2⟩ := enum_mem.mp hz
      obtain ⟨z1, z2⟩ := z
      simp only at e1 e2
      subst e1
      exact ⟨k, (h k z2 e2).mp hb, rfl⟩
    · rintro ⟨k, hk, rfl⟩
      have hl := hP k hk
      refine ⟨((k : Int), xs[k]), List.mem_filter.mpr ⟨enum_mem.mpr ⟨k, rfl, List.getElem?_eq_getElem hl⟩, (h k _ (List.getElem?_eq_getElem hl)).mpr hk⟩, rfl⟩
theorem rise_len {xs : List Int} {S : Nat → Prop} {n : Nat} (h : Rise xs S) (hS : ∀ j, S j → j < n) : xs.length ≤ n := by
  have key : ∀ (l : List Int) (a : Nat), l.Pairwise (· < ·) → (∀ x ∈ l, (a : Int) ≤ x ∧ x < n) → a ≤ n → l.length + a ≤ n := by
    intro l
    induction l with
    | nil => intro a _ _ h; simpa using h
    | cons y l ih =>
      intro a hp hq ha
      rw [List.pairwise_cons] at hp
      have hy := hq y (by simp)
      have := ih (y.toNat + 1) hp.2 (fun x hx => ⟨by have := hp.1 x hx; omega, (hq x (by simp [hx])).2⟩) (by omega)
      simp
      omega
  simpa using key xs 0 h.1 (fun x hx => by obtain ⟨j, hj, rfl⟩ := (h.2 x).mp hx; have := hS j hj; omega) (Nat.zero_le _)
end PDW


set_option Elab.async false
set_option linter.all false
set_option maxRecDepth 100000
set_option maxHeartbeats 0
set_option autoImplicit false
namespace PDW
open PySem PySem.Spec PyProof.Rows L2 PD
def top (i : Nat) : Stmt := PySem.Challenge.pw_badbegins_k40_halving_makes.main.body.getD i (.Pass ⟨0, 0, 0, 0⟩)
structure Env (K : PySem.W.Frag) (mg : Str → Option Value) : Prop where
  d_p_law : ∃ f fd, FunD K "law" "law" (defArgs (top 24)) (defBody (top 24)) (defScope (top 24)) [] [] f fd ∧ mg "law" = some (.ref f)
  d_qfeed : ∃ f fd, FunD K "_law_feed" "_law_feed" (defArgs (top 16)) (defBody (top 16)) (defScope (top 16)) [] [] f fd ∧ mg "_law_feed" = some (.ref f)
  d_qrows : ∃ f fd, FunD K "_law_rows" "_law_rows" (defArgs (top 19)) (defBody (top 19)) (defScope (top 19)) [] [] f fd ∧ mg "_law_rows" = some (.ref f)
  d_qtake : ∃ f fd, FunD K "_law_take" "_law_take" (defArgs (top 17)) (defBody (top 17)) (defScope (top 17)) [] [] f fd ∧ mg "_law_take" = some (.ref f)
  d_qelders : ∃ f fd, FunD K "_law_elders" "_law_elders" (defArgs (top 18)) (defBody (top 18)) (defScope (top 18)) [] [] f fd ∧ mg "_law_elders" = some (.ref f)
  d_p_net_of : ∃ f fd, FunD K "net_of" "net_of" (defArgs (top 14)) (defBody (top 14)) (defScope (top 14)) [] [] f fd ∧ mg "net_of" = some (.ref f)
  d_p_are_elders : ∃ f fd, FunD K "are_elders" "are_elders" (defArgs (top 13)) (defBody (top 13)) (defScope (top 13)) [] [] f fd ∧ mg "are_elders" = some (.ref f)
  d_qcomings : ∃ f fd, FunD K "_law_comings" "_law_comings" (defArgs (top 20)) (defBody (top 20)) (defScope (top 20)) [] [] f fd ∧ mg "_law_comings" = some (.ref f)
  d_qsome : ∃ f fd, FunD K "_law_some" "_law_some" (defArgs (top 21)) (defBody (top 21)) (defScope (top 21)) [] [] f fd ∧ mg "_law_some" = some (.ref f)
  d_p_halving_make : ∃ f fd, FunD K "halving_make" "halving_make" (defArgs (top 10)) (defBody (top 10)) (defScope (top 10)) [V.non] [] f fd ∧ mg "halving_make" = some (.ref f)
  d_p_bits_of : ∃ f fd, FunD K "bits_of" "bits_of" (defArgs (top 4)) (defBody (top 4)) (defScope (top 4)) [] [] f fd ∧ mg "bits_of" = some (.ref f)
  d_p_some_of : ∃ f fd, FunD K "some_of" "some_of" (defArgs (top 5)) (defBody (top 5)) (defScope (top 5)) [] [] f fd ∧ mg "some_of" = some (.ref f)
  d_p_evenest : ∃ f fd, FunD K "evenest" "evenest" (defArgs (top 9)) (defBody (top 9)) (defScope (top 9)) [] [] f fd ∧ mg "evenest" = some (.ref f)
  d_p_lesser_side : ∃ f fd, FunD K "lesser_side" "lesser_side" (defArgs (top 8)) (defBody (top 8)) (defScope (top 8)) [] [] f fd ∧ mg "lesser_side" = some (.ref f)
  d_p_is_in : ∃ f fd, FunD K "is_in" "is_in" (defArgs (top 6)) (defBody (top 6)) (defScope (top 6)) [] [] f fd ∧ mg "is_in" = some (.ref f)
  d_qbest : ∃ f fd, FunD K "_law_best" "_law_best" (defArgs (top 22)) (defBody (top 22)) (defScope (top 22)) [] [] f fd ∧ mg "_law_best" = some (.ref f)
  d_qis : ∃ f fd, FunD K "_law_is" "_law_is" (defArgs (top 23)) (defBody (top 23)) (defScope (top 23)) [] [] f fd ∧ mg "_law_is" = some (.ref f)
  b_list : mg "list" = none
  b_range : mg "range" = none
  b_len : mg "len" = none
  b_enumerate : mg "enumerate" = none
  b_set : mg "set" = none
  b_tuple : mg "tuple" = none
  b_sorted : mg "sorted" = none
  b_min : mg "min" = none
  b_isinstance : mg "isinstance" = none
  b_int : mg "int" = none
  b_bool : mg "bool" = none
  g_MOST : ∃ t, mg "MOST" = some (.int 40 t)

theorem sc_qfeed : FnScope ["_law_script"] ["_law_script"] (defScope (top 16)) := ⟨rfl, rfl, rfl, by decide +kernel, rfl, by decide +kernel, by decide +kernel⟩
theorem ok_qfeed {P : Program} {w : World} {K : PySem.W.Frag} {mg : Str → Option Value} {base : Heap} (E : Env K mg) : Gv P w K mg base 1 "_law_feed" [] (spFd K) := by
  obtain ⟨f, fd, F, hmg⟩ := E.d_qfeed
  exact Gv.of F hmg (fn_feed F sc_qfeed rfl E.b_list (by decide +kernel) (by decide +kernel)) (F.bindsN fun _ _ _ _ _ _ us hl => match us, hl with | [_], _ => rfl) .nil

def m_qtake (qfeed_here : Fd) (qmany : Int) : R (Int × Fd) :=
  (R.bind (R.val (qfeed_here.2.1 + (1 : Int))) fun (y22 : Int) => (R.bind (if (!decide ((qfeed_here.1, y22, qfeed_here.2.2).1 = ([] : List Int))) = true then (R.bind (R.ofO (atI (qfeed_here.1, y22, qfeed_here.2.2).1 (0 : Int))) fun (x31 : Int) => (R.bind (R.val x31) fun (qcell33 : Int) => (if (decide (((10 : Int) ^ Int.toNat (18 : Int)) ≤ qcell33)) = true then R.bind (R.bind (R.bind (R.req (cDiv qcell33 qmany)) fun _ => (R.val (qcell33 / qmany))) fun (y35 : Int) => (R.bind (R.req (!decide ((qfeed_here.1, y22, qfeed_here.2.2).1 = ([] : List Int)))) fun _ => (R.bind (R.req (cMod qcell33 qmany)) fun _ => (R.val ((qcell33 % qmany), (List.set (qfeed_here.1, y22, qfeed_here.2.2).1 0 y35, (qfeed_here.1, y22, qfeed_here.2.2).2)))))) (fun e => R.val ((fun e : (Int × Fd) => (Fl.ex e : (Fl Fd (Int × Fd)))) e)) else (R.bind (R.val (((((qfeed_here.1, y22, qfeed_here.2.2).2.2 * (30011 : Int)) + (qcell33 % (999999937 : Int))) + (7 : Int)) % (1000000007 : Int))) fun (y37 : Int) => (R.val (Fl.nx (List.drop 1 ((qfeed_here.1, y22, qfeed_here.2.2).1, (qfeed_here.1, y22, qfeed_here.2.2).2.1, y37).1, ((qfeed_here.1, y22, qfeed_here.2.2).1, (qfeed_here.1, y22, qfeed_here.2.2).2.1, y37).2))))))) else (R.val (Fl.nx (qfeed_here.1, y22, qfeed_here.2.2)))) (contJ (fun w : Fl Fd (Int × Fd) => w) (fun (j30 : Fd) => (R.bind (R.val ((((j30.2.2 + ((40503 : Int) * j30.2.1)) + (9973 : Int)) * (69069 : Int)) % (2147483647 : Int))) fun (qmixed38 : Int) => (R.bind (R.req (cMul qmixed38 qmixed38)) fun _ => (R.bind (R.val ((((qmixed38 * qmixed38) + ((30269 : Int) * qmixed38)) + j30.2.1) % (2147483629 : Int))) fun (qmixed40 : Int) => (R.bind (R.req (cMod (qmixed40 / (64 : Int)) qmany)) fun _ => (R.val (((qmixed40 / (64 : Int)) % qmany), j30))))))) (fun e : (Int × Fd) => e))))
theorem nox_m_qtake (qfeed_here : Fd) (qmany : Int) : NoX (m_qtake qfeed_here qmany) := by
  unfold m_qtake
  repeat' first | exact nox_val _ | exact nox_bad | exact nox_ofO _ | exact nox_req _ | exact nox_compR _ _ | exact nox_comp _ | refine nox_bind ?_ fun _ => ?_ | refine nox_fold (fun _ _ => ?_) _ _ | refine nox_loopV (fun _ _ => ?_) _ _ | refine nox_contV (fun _ => ?_) _ | refine nox_contJ (fun _ => ?_) _ | refine nox_whl (fun _ => ?_) _ _ | refine nox_ite ?_ ?_ | split
theorem sc_qtake : FnScope ["_law_feed_here", "_law_many", "_law_cell", "_law_mixed"] ["_law_feed_here", "_law_many"] (defScope (top 17)) := ⟨rfl, rfl, rfl, by decide +kernel, rfl, by decide +kernel, by decide +kernel⟩
theorem fo_qtake {P : Program} {w : World} {K : PySem.W.Frag} {mg : Str → Option Value} {base : Heap} (E : Env K mg) {f : Addr} {fd : FuncData} (F : FunD K "_law_take" "_law_take" (defArgs (top 17)) (defBody (top 17)) (defScope (top 17)) [] [] f fd) : FnOk P w K mg base (L2.CX P w) 1 f fd ["_law_feed_here", "_law_many"] (spC K mg (fun t : (Fd × Int) => []) (fun t : (Fd × Int) => ((.abs (feedA t.1)) : Cl)) (fun t : (Fd × Int) => [(PyData.int t.2)]) (fun t => m_qtake t.1 t.2) (fun w : (Int × Fd) => Rs.d (PyData.int w.1)) (fun w : (Int × Fd) => ((.abs (feedA w.2)) : Cl))) := by
  refine (fn_cell (N := ["_law_feed_here", "_law_many", "_law_cell", "_law_mixed"]) (ps := ["_law_feed_here", "_law_many"]) F sc_qtake (view := (fun w : (Int × Fd) => (Fl.ex w : Fl Empty (Int × Fd)))) (Γf := (fun z : Empty => z.elim)) (Xf := (fun w : (Int × Fd) => Xo.rt (PyData.int w.1) [(0, (.abs (feedA w.2)))])) 0 [] [true] (fun _ => rfl) (fun _ => rfl) (by decide) (fun t => trivial) (fun t => ⟨fun _ => rfl, trivial⟩) (fun w => rfl) ?_)
  intro X W h t
  obtain ⟨qfeed_here, qmany⟩ := t
  have C := h.cf
  have n0 : (["_law_feed_here", "_law_many", "_law_cell", "_law_mixed"] : List Str)[0]? = some ("_law_feed_here" : Str) := rfl
  have v0 : visB (defScope (top 17)) "_law_feed_here" = true := by decide +kernel
  have s0 : Sto X (defScope (top 17)) "_law_feed_here" := sto_c h.fn (by decide +kernel)
  have n1 : (["_law_feed_here", "_law_many", "_law_cell", "_law_mixed"] : List Str)[1]? = some ("_law_many" : Str) := rfl
  have v1 : visB (defScope (top 17)) "_law_many" = true := by decide +kernel
  have s1 : Sto X (defScope (top 17)) "_law_many" := sto_c h.fn (by decide +kernel)
  have n2 : (["_law_feed_here", "_law_many", "_law_cell", "_law_mixed"] : List Str)[2]? = some ("_law_cell" : Str) := rfl
  have v2 : visB (defScope (top 17)) "_law_cell" = true := by decide +kernel
  have s2 : Sto X (defScope (top 17)) "_law_cell" := sto_c h.fn (by decide +kernel)
  have n3 : (["_law_feed_here", "_law_many", "_law_cell", "_law_mixed"] : List Str)[3]? = some ("_law_mixed" : Str) := rfl
  have v3 : visB (defScope (top 17)) "_law_mixed" = true := by decide +kernel
  have s3 : Sto X (defScope (top 17)) "_law_mixed" := sto_c h.fn (by decide +kernel)
  show Ex X W _ _ (m_qtake qfeed_here qmany) _ _ _
  unfold m_qtake
  exact (asΓ [.io (.abs (feedA qfeed_here)), .dat true (PyData.int qmany), .un, .un] (ex_fdT (n := fun y22 : Int => y22) (ff := fun y22 : Int => qfeed_here) C 0 true (EvP.to (evp_add (evp_fdT (f := qfeed_here) (io := true) C (evp_slot C (.inr rfl) n0 v0) rfl) evp_int) (qfeed_here.2.1 + (1 : Int)) PyData.int) (fun y22 => (evp_slot C (.inr rfl) n0 v0)) (fun _ => rfl) (fun y22 => (asΓ [.io (.abs (feedA (qfeed_here.1, y22, qfeed_here.2.2))), .dat true (PyData.int qmany), .un, .un] (ex_ifJP (Γj := (fun j30 : Fd => [.io (.abs (feedA j30)), .dat true (PyData.int qmany), .un, .un])) (EvP.tstC (evp_fdN (f := (qfeed_here.1, y22, qfeed_here.2.2)) (io := true) C (evp_slot C (.inr rfl) n0 v0) rfl)) (asΓ [.io (.abs (feedA (qfeed_here.1, y22, qfeed_here.2.2))), .dat true (PyData.int qmany), .un, .un] (ex_pre fun x31 h32 => (ex_set C 2 n2 s2 (EvP.to (evp_fd0 (f := (qfeed_here.1, y22, qfeed_here.2.2)) (io := true) C (evp_slot C (.inr rfl) n0 v0) rfl h32) x31 PyData.int) fun qcell33 => (asΓ [.io (.abs (feedA (qfeed_here.1, y22, qfeed_here.2.2))), .dat true (PyData.int qmany), .dat true (PyData.int qcell33), .un] (ex_ifEP (fun e : (Int × Fd) => (Fl.ex e : (Fl Fd (Int × Fd)))) (EvP.tstC (evp_ge (evp_var C rfl n2 v2) (evp_pow (by decide) evp_int evp_int))) (asΓ [.io (.abs (feedA (qfeed_here.1, y22, qfeed_here.2.2))), .dat true (PyData.int qmany), .dat true (PyData.int qcell33), .un] (ex_fd0 (n := fun y35 : Int => y35) (ff := fun y35 : Int => (qfeed_here.1, y22, qfeed_here.2.2)) C 0 true (ev_req fun h34 => (EvP.to (evp_divC h34 (evp_var C rfl n2 v2) (evp_var C rfl n1 v1)) (qcell33 / qmany) PyData.int)) (fun y35 => (evp_slot C (.inr rfl) n0 v0)) (fun _ => rfl) (fun y35 => (asΓ [.io (.abs (feedA (List.set (qfeed_here.1, y22, qfeed_here.2.2).1 0 y35, (qfeed_here.1, y22, qfeed_here.2.2).2))), .dat true (PyData.int qmany), .dat true (PyData.int qcell33), .un] (ex_req fun h36 => (ex_retP (evp_modC h36 (evp_var C rfl n2 v2) (evp_var C rfl n1 v1)) [(0, (.abs (feedA (List.set (qfeed_here.1, y22, qfeed_here.2.2).1 0 y35, (qfeed_here.1, y22, qfeed_here.2.2).2))))] ⟨rfl, trivial⟩)))))) (asΓ [.io (.abs (feedA (qfeed_here.1, y22, qfeed_here.2.2))), .dat true (PyData.int qmany), .dat true (PyData.int qcell33), .un] (ex_fdS (n := fun y37 : Int => y37) (ff := fun y37 : Int => (qfeed_here.1, y22, qfeed_here.2.2)) C 0 true (EvP.to (evp_mod (by decide) (evp_add (evp_add (evp_mulR (by decide) (evp_fdS (f := (qfeed_here.1, y22, qfeed_here.2.2)) (io := true) C (evp_slot C (.inr rfl) n0 v0) rfl) evp_int) (evp_mod (by decide) (evp_var C rfl n2 v2) evp_int)) evp_int) evp_int) (((((qfeed_here.1, y22, qfeed_here.2.2).2.2 * (30011 : Int)) + (qcell33 % (999999937 : Int))) + (7 : Int)) % (1000000007 : Int)) PyData.int) (fun y37 => (evp_slot C (.inr rfl) n0 v0)) (fun _ => rfl) (fun y37 => (asΓ [.io (.abs (feedA ((qfeed_here.1, y22, qfeed_here.2.2).1, (qfeed_here.1, y22, qfeed_here.2.2).2.1, y37))), .dat true (PyData.int qmany), .dat true (PyData.int qcell33), .un] (ex_fdC C 0 true (pe_nm C n0 v0) (pe_nm C n0 v0) rfl (ex_nil [2] rfl rfl))))))))))) (ex_nil [] rfl rfl) (fun j30 => (asΓ [.io (.abs (feedA j30)), .dat true (PyData.int qmany), .un, .un] (ex_set C 3 n3 s3 (EvP.to (evp_mod (by decide) (evp_mulR (by decide) (evp_add (evp_add (evp_fdS (f := j30) (io := true) C (evp_slot C (.inr rfl) n0 v0) rfl) (evp_mulL (by decide) evp_int (evp_fdT (f := j30) (io := true) C (evp_slot C (.inr rfl) n0 v0) rfl))) evp_int) evp_int) evp_int) ((((j30.2.2 + ((40503 : Int) * j30.2.1)) + (9973 : Int)) * (69069 : Int)) % (2147483647 : Int)) PyData.int) fun qmixed38 => (asΓ [.io (.abs (feedA j30)), .dat true (PyData.int qmany), .un, .dat true (PyData.int qmixed38)] (ex_req fun h39 => (ex_set C 3 n3 s3 (EvP.to (evp_mod (by decide) (evp_add (evp_add (evp_mulC h39 (evp_var C rfl n3 v3) (evp_var C rfl n3 v3)) (evp_mulL (by decide) evp_int (evp_var C rfl n3 v3))) (evp_fdT (f := j30) (io := true) C (evp_slot C (.inr rfl) n0 v0) rfl)) evp_int) ((((qmixed38 * qmixed38) + ((30269 : Int) * qmixed38)) + j30.2.1) % (2147483629 : Int)) PyData.int) fun qmixed40 => (asΓ [.io (.abs (feedA j30)), .dat true (PyData.int qmany), .un, .dat true (PyData.int qmixed40)] (ex_req fun h41 => (ex_retP (evp_modC h41 (evp_div (by decide) (by decide) (evp_var C rfl n3 v3) evp_int) (evp_var C rfl n1 v1)) [(0, (.abs (feedA j30)))] ⟨rfl, trivial⟩))))))))))))))

theorem ok_qtake {P : Program} {w : World} {K : PySem.W.Frag} {mg : Str → Option Value} {base : Heap} (E : Env K mg) : Gv P w K mg base 1 "_law_take" [] (spC K mg (fun t : (Fd × Int) => []) (fun t : (Fd × Int) => ((.abs (feedA t.1)) : Cl)) (fun t : (Fd × Int) => [(PyData.int t.2)]) (fun t => m_qtake t.1 t.2) (fun w : (Int × Fd) => Rs.d (PyData.int w.1)) (fun w : (Int × Fd) => ((.abs (feedA w.2)) : Cl))) := by
  obtain ⟨f, fd, F, hmg⟩ := E.d_qtake
  exact Gv.of F hmg (fo_qtake E F) (F.bindsN fun _ _ _ _ _ _ us hl => match us, hl with | [_, _], _ => rfl) .nil

def m_qelders (qfeed_here : Fd) (qmake : Int) (qway : Int) : R ((List Int) × Fd) :=
  (if (decide (qway = (0 : Int))) = true then (R.val ([(qmake - (1 : Int))], qfeed_here)) else (if (decide (qway = (1 : Int))) = true then (R.val ([(0 : Int)], qfeed_here)) else (if (decide (qway = (2 : Int))) = true then (R.val (([] : (List Int)), qfeed_here)) else (if (decide (qway = (3 : Int))) = true then (R.val ([(qmake / (2 : Int))], qfeed_here)) else (if (decide (qway = (4 : Int))) = true then (R.bind (R.req (cRng 0 qmake)) fun _ => (R.bind (R.bind (R.val ()) fun _ => R.bind (R.req (szB (rng 0 qmake))) fun _ => compR (fun (s101 : Fd) (x97 : Int) => (R.bind (m_qtake s101 (2 : Int)) fun (x102 : (Int × Fd)) => R.bind (R.val (1 : Int)) fun (y103 : Int) => R.val ((decide (x102.1 = y103)), x102.2))) (fun t105 : (Bool × Fd) => t105.1) (fun t105 : (Bool × Fd) => t105.2) (fun (t105 : (Bool × Fd)) (x97 : Int) => R.val (x97, t105.2)) (fun z106 : (Int × Fd) => z106.2) (fun z106 : (Int × Fd) => z106.1) (rng 0 qmake) qfeed_here) fun (r107 : (Fd × List Int)) => (R.val (r107.2, r107.1)))) else (R.bind (R.val ([] : (List Int))) fun (qfound108 : (List Int)) => (R.bind (R.bind (R.bind (m_qtake qfeed_here (7 : Int)) fun (x109 : (Int × Fd)) => R.bind (R.val ()) fun (y110 : Unit) => R.val (x109.1, x109.2)) fun (r112 : (Int × Fd)) => if cRng 0 r112.1 = true then R.val r112 else R.bad) fun (r114 : (Int × Fd)) => R.bind (R.fold (fun (s122 : (Fd × (List Int))) (x115 : Int) => (R.bind (m_qtake s122.1 qmake) fun (qelder123 : (Int × Fd)) => (R.bind (R.ofO (ninB (PyData.int qelder123.1) (PyData.list (List.map PyData.int s122.2)))) fun (z124 : Bool) => (R.bind (if z124 = true then (R.bind (R.req (ltS s122.2)) fun _ => R.bind (R.val (s122.2 ++ [qelder123.1])) fun (qfound128 : (List Int)) => (R.val qfound128)) else (R.val s122.2)) fun (j127 : (List Int)) => (R.val (qelder123.2, j127)))))) (rng 0 r114.1) (r114.2, qfound108)) fun (s122 : (Fd × (List Int))) => (R.val (s122.2, s122.1)))))))))
theorem nox_m_qelders (qfeed_here : Fd) (qmake : Int) (qway : Int) : NoX (m_qelders qfeed_here qmake qway) := by
  unfold m_qelders
  repeat' first | exact nox_val _ | exact nox_bad | exact nox_ofO _ | exact nox_req _ | exact nox_compR _ _ | exact nox_comp _ | exact nox_m_qtake _ _ | refine nox_bind ?_ fun _ => ?_ | refine nox_fold (fun _ _ => ?_) _ _ | refine nox_loopV (fun _ _ => ?_) _ _ | refine nox_contV (fun _ => ?_) _ | refine nox_contJ (fun _ => ?_) _ | refine nox_whl (fun _ => ?_) _ _ | refine nox_ite ?_ ?_ | split
theorem sc_qelders : FnScope ["_law_feed_here", "_law_make", "_law_way", "_law_found", "_law_k", "_law_elder"] ["_law_feed_here", "_law_make", "_law_way"] (defScope (top 18)) := ⟨rfl, rfl, rfl, by decide +kernel, rfl, by decide +kernel, by decide +kernel⟩
theorem fo_qelders {P : Program} {w : World} {K : PySem.W.Frag} {mg : Str → Option Value} {base : Heap} (E : Env K mg) {f : Addr} {fd : FuncData} (F : FunD K "_law_elders" "_law_elders" (defArgs (top 18)) (defBody (top 18)) (defScope (top 18)) [] [] f fd) : FnOk P w K mg base (L2.CX P w) 2 f fd ["_law_feed_here", "_law_make", "_law_way"] (spC K mg (fun t : (Fd × Int × Int) => []) (fun t : (Fd × Int × Int) => ((.abs (feedA t.1)) : Cl)) (fun t : (Fd × Int × Int) => [(PyData.int t.2.1), (PyData.int t.2.2)]) (fun t => m_qelders t.1 t.2.1 t.2.2) (fun w : ((List Int) × Fd) => Rs.f (List.map PyData.int w.1)) (fun w : ((List Int) × Fd) => ((.abs (feedA w.2)) : Cl))) := by
  refine (fn_cell (N := ["_law_feed_here", "_law_make", "_law_way", "_law_found", "_law_k", "_law_elder"]) (ps := ["_law_feed_here", "_law_make", "_law_way"]) F sc_qelders (view := (fun w : ((List Int) × Fd) => (Fl.ex w : Fl Empty ((List Int) × Fd)))) (Γf := (fun z : Empty => z.elim)) (Xf := (fun w : ((List Int) × Fd) => Xo.rtF (List.map PyData.int w.1) [(0, (.abs (feedA w.2)))])) 0 [] [true, true] (fun _ => rfl) (fun _ => rfl) (by decide) (fun t => trivial) (fun t => ⟨fun _ => rfl, ⟨fun _ => rfl, trivial⟩⟩) (fun w => rfl) ?_)
  intro X W h t
  obtain ⟨qfeed_here, qmake, qway⟩ := t
  have C := h.cf
  have hb_range : X.mg "range" = none := by rw [h.mg]; exact E.b_range
  have c_m_qtake := (ok_qtake (P := P) (w := w) (base := base) E).cC h (by decide)
  have n0 : (["_law_feed_here", "_law_make", "_law_way", "_law_found", "_law_k", "_law_elder"] : List Str)[0]? = some ("_law_feed_here" : Str) := rfl
  have v0 : visB (defScope (top 18)) "_law_feed_here" = true := by decide +kernel
  have s0 : Sto X (defScope (top 18)) "_law_feed_here" := sto_c h.fn (by decide +kernel)
  have n1 : (["_law_feed_here", "_law_make", "_law_way", "_law_found", "_law_k", "_law_elder"] : List Str)[1]? = some ("_law_make" : Str) := rfl
  have v1 : visB (defScope (top 18)) "_law_make" = true := by decide +kernel
  have s1 : Sto X (defScope (top 18)) "_law_make" := sto_c h.fn (by decide +kernel)
  have n2 : (["_law_feed_here", "_law_make", "_law_way", "_law_found", "_law_k", "_law_elder"] : List Str)[2]? = some ("_law_way" : Str) := rfl
  have v2 : visB (defScope (top 18)) "_law_way" = true := by decide +kernel
  have s2 : Sto X (defScope (top 18)) "_law_way" := sto_c h.fn (by decide +kernel)
  have n3 : (["_law_feed_here", "_law_make", "_law_way", "_law_found", "_law_k", "_law_elder"] : List Str)[3]? = some ("_law_found" : Str) := rfl
  have v3 : visB (defScope (top 18)) "_law_found" = true := by decide +kernel
  have s3 : Sto X (defScope (top 18)) "_law_found" := sto_c h.fn (by decide +kernel)
  have n4 : (["_law_feed_here", "_law_make", "_law_way", "_law_found", "_law_k", "_law_elder"] : List Str)[4]? = some ("_law_k" : Str) := rfl
  have v4 : visB (defScope (top 18)) "_law_k" = true := by decide +kernel
  have s4 : Sto X (defScope (top 18)) "_law_k" := sto_c h.fn (by decide +kernel)
  have n5 : (["_law_feed_here", "_law_make", "_law_way", "_law_found", "_law_k", "_law_elder"] : List Str)[5]? = some ("_law_elder" : Str) := rfl
  have v5 : visB (defScope (top 18)) "_law_elder" = true := by decide +kernel
  have s5 : Sto X (defScope (top 18)) "_law_elder" := sto_c h.fn (by decide +kernel)
  show Ex X W _ _ (m_qelders qfeed_here qmake qway) _ _ _
  unfold m_qelders
  exact (asΓ [.io (.abs (feedA qfeed_here)), .dat true (PyData.int qmake), .dat true (PyData.int qway), .un, .un, .un] (ex_ifXP (viewA := (fun w : ((List Int) × Fd) => (Fl.ex w : Fl Empty ((List Int) × Fd)))) (EvP.tstC (evp_eqI C (evp_var C rfl n2 v2) evp_int)) (asΓ [.io (.abs (feedA qfeed_here)), .dat true (PyData.int qmake), .dat true (PyData.int qway), .un, .un, .un] (ex_retFP (evfp_lst (evap_cons (evp_sub (evp_var C rfl n1 v1) evp_int) eva_nil) (.cons (.inl rfl) .nil) rfl) [(0, (.abs (feedA qfeed_here)))] ⟨rfl, trivial⟩)) (asΓ [.io (.abs (feedA qfeed_here)), .dat true (PyData.int qmake), .dat true (PyData.int qway), .un, .un, .un] (ex_ifXP (viewA := (fun w : ((List Int) × Fd) => (Fl.ex w : Fl Empty ((List Int) × Fd)))) (EvP.tstC (evp_eqI C (evp_var C rfl n2 v2) evp_int)) (asΓ [.io (.abs (feedA qfeed_here)), .dat true (PyData.int qmake), .dat true (PyData.int qway), .un, .un, .un] (ex_retFP (evfp_lst (evap_cons evp_int eva_nil) (.cons (.inl rfl) .nil) rfl) [(0, (.abs (feedA qfeed_here)))] ⟨rfl, trivial⟩)) (asΓ [.io (.abs (feedA qfeed_here)), .dat true (PyData.int qmake), .dat true (PyData.int qway), .un, .un, .un] (ex_ifXP (viewA := (fun w : ((List Int) × Fd) => (Fl.ex w : Fl Empty ((List Int) × Fd)))) (EvP.tstC (evp_eqI C (evp_var C rfl n2 v2) evp_int)) (asΓ [.io (.abs (feedA qfeed_here)), .dat true (PyData.int qmake), .dat true (PyData.int qway), .un, .un, .un] (ex_retFP (evfp_lst eva_nil .nil rfl) [(0, (.abs (feedA qfeed_here)))] ⟨rfl, trivial⟩)) (asΓ [.io (.abs (feedA qfeed_here)), .dat true (PyData.int qmake), .dat true (PyData.int qway), .un, .un, .un] (ex_ifXP (viewA := (fun w : ((List Int) × Fd) => (Fl.ex w : Fl Empty ((List Int) × Fd)))) (EvP.tstC (evp_eqI C (evp_var C rfl n2 v2) evp_int)) (asΓ [.io (.abs (feedA qfeed_here)), .dat true (PyData.int qmake), .dat true (PyData.int qway), .un, .un, .un] (ex_retFP (evfp_lst (evap_cons (evp_div (by decide) (by decide) (evp_var C rfl n1 v1) evp_int) eva_nil) (.cons (.inl rfl) .nil) rfl) [(0, (.abs (feedA qfeed_here)))] ⟨rfl, trivial⟩)) (asΓ [.io (.abs (feedA qfeed_here)), .dat true (PyData.int qmake), .dat true (PyData.int qway), .un, .un, .un] (ex_ifXP (viewA := (fun w : ((List Int) × Fd) => (Fl.ex w : Fl Empty ((List Int) × Fd)))) (EvP.tstC (evp_eqI C (evp_var C rfl n2 v2) evp_int)) (asΓ [.io (.abs (feedA qfeed_here)), .dat true (PyData.int qmake), .dat true (PyData.int qway), .un, .un, .un] (ex_req fun h96 => (ex_retF (evf_comp (own := [("_law_elder", 5)]) (items := fun _ : Unit => (rng 0 qmake)) (s0 := fun _ : Unit => qfeed_here) (Γs := (fun s101 : Fd => [.io (.abs (feedA s101)), .dat true (PyData.int qmake), .dat true (PyData.int qway), .un, .un, .un])) (tt := (fun (s101 : Fd) (x97 : Int) => (R.bind (m_qtake s101 (2 : Int)) fun (x102 : (Int × Fd)) => R.bind (R.val (1 : Int)) fun (y103 : Int) => R.val ((decide (x102.1 = y103)), x102.2)))) (bt := (fun t105 : (Bool × Fd) => t105.1)) (Γt := (fun (t105 : (Bool × Fd)) (x97 : Int) => [.io (.abs (feedA t105.2)), .dat true (PyData.int qmake), .dat true (PyData.int qway), .un, .un, .dat true (PyData.int x97)])) (st := (fun t105 : (Bool × Fd) => t105.2)) (te := (fun (t105 : (Bool × Fd)) (x97 : Int) => R.val (x97, t105.2))) (se := (fun z106 : (Int × Fd) => z106.2)) (out := (fun z106 : (Int × Fd) => z106.1)) (encO := PyData.int) C (evip_range1 C hb_range (by decide +kernel) h96 (evp_var C rfl n1 v1)) (by decide +kernel) (Γe := (fun (z106 : (Int × Fd)) (x97 : Int) => [.io (.abs (feedA z106.2)), .dat true (PyData.int qmake), .dat true (PyData.int qway), .un, .un, .dat true (PyData.int x97)])) (fun _ _ _ _ _ => (tg_name (fr := true) (enc := PyData.int) (Cf.blk C) 5 n5 (sto_l (by decide +kernel)))) (fun _ _ _ _ _ s101 x97 => (evts_one (Ev.tstC (ev_eqM (Cf.blk C) eqt_int (ev_callCP (as1 := []) (as2 := [.d true (PyData.int (2 : Int))]) (Cf.blk C) c_m_qtake.blk (fun _ _ => rfl) (by decide +kernel) 0 true (evap_cons (evp_slot (Cf.blk C) (.inr rfl) n0 (by decide +kernel)) (evap_cons evp_int eva_nil)) (fun _ _ => .nil) (s101, (2 : Int)) rfl .nil (.d .nil) rfl (fun r : (Int × Fd) => (PyData.int r.1)) (fun r : (Int × Fd) => [.io (.abs (feedA r.2)), .dat true (PyData.int qmake), .dat true (PyData.int qway), .un, .un, .dat true (PyData.int x97)]) (fun t z => nox_m_qtake _ _ z)) (fun x102 => (EvP.to evp_int (1 : Int) PyData.int)) (fun x102 y103 => ((decide (x102.1 = y103)), x102.2)) (fun z104 : (Bool × Fd) => z104.1) (Γk := fun z104 : (Bool × Fd) => [.io (.abs (feedA z104.2)), .dat true (PyData.int qmake), .dat true (PyData.int qway), .un, .un, .dat true (PyData.int x97)]))))) (fun _ _ _ _ _ t105 x97 => (EvP.to (evp_var (Cf.blk C) rfl n5 (by decide +kernel)) (x97, t105.2) (fun z106 : (Int × Fd) => (PyData.int z106.1)))) (fun _ => rfl) (by decide) (fun _ _ => rfl) (fun _ _ => rfl) (fun _ => (un1 rfl))) (io := fun r107 => [(0, (.abs (feedA r107.1)))]) (hio := fun r107 => ⟨rfl, trivial⟩)))) (asΓ [.io (.abs (feedA qfeed_here)), .dat true (PyData.int qmake), .dat true (PyData.int qway), .un, .un, .un] (ex_setF C 3 n3 s3 (EvFP.to (evfp_lst eva_nil .nil rfl) ([] : (List Int)) (fun xs : (List Int) => (List.map PyData.int xs))) fun qfound108 => (asΓ [.io (.abs (feedA qfeed_here)), .dat true (PyData.int qmake), .dat true (PyData.int qway), .own (.lst (List.map PyData.int qfound108)), .un, .un] (ex_forS (Γs := (fun s122 : (Fd × (List Int)) => [.io (.abs (feedA s122.1)), .dat true (PyData.int qmake), .dat true (PyData.int qway), .own (.lst (List.map PyData.int s122.2)), .un, .un])) (is := []) (s0 := fun r114 : (Int × Fd) => (r114.2, qfound108)) (items := fun r114 : (Int × Fd) => (rng 0 r114.1)) C (evi_range1 C hb_range (by decide +kernel) (eva_cons (as := fun z111 : (Int × Fd) => [.d true (PyData.int z111.1)]) (Γk := fun z111 : (Int × Fd) => [.io (.abs (feedA z111.2)), .dat true (PyData.int qmake), .dat true (PyData.int qway), .own (.lst (List.map PyData.int qfound108)), .un, .un]) (fun x109 y110 => (x109.1, x109.2)) (ev_callCP (as1 := []) (as2 := [.d true (PyData.int (7 : Int))]) C c_m_qtake (fun _ _ => rfl) (by decide +kernel) 0 true (evap_cons (evp_slot C (.inr rfl) n0 v0) (evap_cons evp_int eva_nil)) (fun _ _ => .nil) (qfeed_here, (7 : Int)) rfl .nil (.d .nil) rfl (fun r : (Int × Fd) => (PyData.int r.1)) (fun r : (Int × Fd) => [.io (.abs (feedA r.2)), .dat true (PyData.int qmake), .dat true (PyData.int qway), .own (.lst (List.map PyData.int qfound108)), .un, .un]) (fun t z => nox_m_qtake _ _ z)) (fun x109 => eva_nil)) (fun r112 => r112) (fun z113 : (Int × Fd) => [.io (.abs (feedA z113.2)), .dat true (PyData.int qmake), .dat true (PyData.int qway), .own (.lst (List.map PyData.int qfound108)), .un, .un]) (fun z113 : (Int × Fd) => z113.1)) (tg_name (fr := true) (enc := PyData.int) C 4 n4 s4) (fun _ => rfl) (fun s122 x115 => (asΓ [.io (.abs (feedA s122.1)), .dat true (PyData.int qmake), .dat true (PyData.int qway), .own (.lst (List.map PyData.int s122.2)), .dat true (PyData.int x115), .un] (ex_set (enc := fun qelder123 : (Int × Fd) => (PyData.int qelder123.1)) (Γ1 := fun qelder123 : (Int × Fd) => [.io (.abs (feedA qelder123.2)), .dat true (PyData.int qmake), .dat true (PyData.int qway), .own (.lst (List.map PyData.int s122.2)), .dat true (PyData.int x115), .un]) C 5 n5 s5 (ev_callCP (as1 := []) (as2 := [.d true (PyData.int qmake)]) C c_m_qtake (fun _ _ => rfl) (by decide +kernel) 0 true (evap_cons (evp_slot C (.inr rfl) n0 v0) (evap_cons (evp_var C rfl n1 v1) eva_nil)) (fun _ _ => .nil) (s122.1, qmake) rfl .nil (.d .nil) rfl (fun r : (Int × Fd) => (PyData.int r.1)) (fun r : (Int × Fd) => [.io (.abs (feedA r.2)), .dat true (PyData.int qmake), .dat true (PyData.int qway), .own (.lst (List.map PyData.int s122.2)), .dat true (PyData.int x115), .un]) (fun t z => nox_m_qtake _ _ z)) fun qelder123 => (asΓ [.io (.abs (feedA qelder123.2)), .dat true (PyData.int qmake), .dat true (PyData.int qway), .own (.lst (List.map PyData.int s122.2)), .dat true (PyData.int x115), .dat true (PyData.int qelder123.1)] (ex_pre fun z124 h125 => (ex_ifSP (Γj := (fun j127 : (List Int) => [.io (.abs (feedA qelder123.2)), .dat true (PyData.int qmake), .dat true (PyData.int qway), .own (.lst (List.map PyData.int j127)), .dat true (PyData.int x115), .dat true (PyData.int qelder123.1)])) (EvP.tstC (Sem2.pu (s2_notin (u65 C)) h125 (evp_var C rfl n5 v5) (evp_slot C (.inl rfl) n3 v3) .d (.o rfl))) (asΓ [.io (.abs (feedA qelder123.2)), .dat true (PyData.int qmake), .dat true (PyData.int qway), .own (.lst (List.map PyData.int s122.2)), .dat true (PyData.int x115), .dat true (PyData.int qelder123.1)] (ex_appP (enc := PyData.int) (xs := s122.2) (y := qelder123.1) 3 false (evp_slot C (.inl rfl) n3 v3) rfl (evp_var C rfl n5 v5) fun qfound128 => (ex_nil [] rfl rfl))) (ex_nil [] rfl rfl) (fun j127 => (ex_nil [4, 5] rfl rfl)))))))) (fun s122 => (asΓ [.io (.abs (feedA s122.1)), .dat true (PyData.int qmake), .dat true (PyData.int qway), .own (.lst (List.map PyData.int s122.2)), .un, .un] (ex_retO 3 (evp_slot C (.inl rfl) n3 v3) rfl [(0, (.abs (feedA s122.1)))] ⟨rfl, trivial⟩)))))))))))))))))

theorem ok_qelders {P : Program} {w : World} {K : PySem.W.Frag} {mg : Str → Option Value} {base : Heap} (E : Env K mg) : Gv P w K mg base 2 "_law_elders" [] (spC K mg (fun t : (Fd × Int × Int) => []) (fun t : (Fd × Int × Int) => ((.abs (feedA t.1)) : Cl)) (fun t : (Fd × Int × Int) => [(PyData.int t.2.1), (PyData.int t.2.2)]) (fun t => m_qelders t.1 t.2.1 t.2.2) (fun w : ((List Int) × Fd) => Rs.f (List.map PyData.int w.1)) (fun w : ((List Int) × Fd) => ((.abs (feedA w.2)) : Cl))) := by
  obtain ⟨f, fd, F, hmg⟩ := E.d_qelders
  exact Gv.of F hmg (fo_qelders E F) (F.bindsN fun _ _ _ _ _ _ us hl => match us, hl with | [_, _, _], _ => rfl) .nil

def m_qrows (qfeed_here : Fd) : R ((List (List Int)) × Fd) :=
  (R.bind (R.val [([] : (List Int))]) fun (qrows_here138 : (List (List Int))) => (R.bind (m_qtake qfeed_here (8 : Int)) fun (qway139 : (Int × Fd)) => (R.bind (R.bind (R.bind (R.val (1 : Int)) fun (x143 : Int) => R.bind (R.bind (R.bind (R.val (1 : Int)) fun (x144 : Int) => R.bind (m_qtake qway139.2 (40 : Int)) fun (y145 : (Int × Fd)) => R.val ((x144 + y145.1), y145.2)) fun (x147 : (Int × Fd)) => R.bind (R.val ()) fun (y148 : Unit) => R.val (x147.1, x147.2)) fun (y150 : (Int × Fd)) => R.val (x143, y150.1, y150.2)) fun (r152 : (Int × Int × Fd)) => if cRng r152.1 r152.2.1 = true then R.val r152 else R.bad) fun (r154 : (Int × Int × Fd)) => R.bind (R.fold (fun (s162 : (Fd × (List (List Int)))) (x155 : Int) => (R.bind (R.val qway139.1) fun (qnow163 : Int) => (R.bind (if (decide ((5 : Int) < qway139.1)) = true then (R.bind (m_qtake s162.1 (6 : Int)) fun (qnow166 : (Int × Fd)) => (R.val (qnow166.2, qnow166.1))) else (R.val (s162.1, qnow163))) fun (j165 : (Fd × Int)) => (R.bind (R.bind (m_qelders j165.1 x155 j165.2) fun (r167 : ((List Int) × Fd)) => R.bind (R.req (ltS s162.2)) fun _ => R.val (r167.2, (s162.2 ++ [r167.1]))) fun (z168 : (Fd × (List (List Int)))) => (R.val (z168.1, z168.2)))))) (rng r154.1 r154.2.1) (r154.2.2, qrows_here138)) fun (s162 : (Fd × (List (List Int)))) => (R.val (s162.2, s162.1)))))
theorem nox_m_qrows (qfeed_here : Fd) : NoX (m_qrows qfeed_here) := by
  unfold m_qrows
  repeat' first | exact nox_val _ | exact nox_bad | exact nox_ofO _ | exact nox_req _ | exact nox_compR _ _ | exact nox_comp _ | exact nox_m_qtake _ _ | exact nox_m_qelders _ _ _ | refine nox_bind ?_ fun _ => ?_ | refine nox_fold (fun _ _ => ?_) _ _ | refine nox_loopV (fun _ _ => ?_) _ _ | refine nox_contV (fun _ => ?_) _ | refine nox_contJ (fun _ => ?_) _ | refine nox_whl (fun _ => ?_) _ _ | refine nox_ite ?_ ?_ | split
theorem sc_qrows : FnScope ["_law_feed_here", "_law_rows_here", "_law_way", "_law_make", "_law_now"] ["_law_feed_here"] (defScope (top 19)) := ⟨rfl, rfl, rfl, by decide +kernel, rfl, by decide +kernel, by decide +kernel⟩
theorem fo_qrows {P : Program} {w : World} {K : PySem.W.Frag} {mg : Str → Option Value} {base : Heap} (E : Env K mg) {f : Addr} {fd : FuncData} (F : FunD K "_law_rows" "_law_rows" (defArgs (top 19)) (defBody (top 19)) (defScope (top 19)) [] [] f fd) : FnOk P w K mg base (L2.CX P w) 3 f fd ["_law_feed_here"] (spC K mg (fun t : Fd => []) (fun t : Fd => ((.abs (feedA t)) : Cl)) (fun t : Fd => []) (fun t => m_qrows t) (fun w : ((List (List Int)) × Fd) => Rs.f (List.map (fun xs : (List Int) => PyData.list (List.map PyData.int xs)) w.1)) (fun w : ((List (List Int)) × Fd) => ((.abs (feedA w.2)) : Cl))) := by
  refine (fn_cell (N := ["_law_feed_here", "_law_rows_here", "_law_way", "_law_make", "_law_now"]) (ps := ["_law_feed_here"]) F sc_qrows (view := (fun w : ((List (List Int)) × Fd) => (Fl.ex w : Fl Empty ((List (List Int)) × Fd)))) (Γf := (fun z : Empty => z.elim)) (Xf := (fun w : ((List (List Int)) × Fd) => Xo.rtF (List.map (fun xs : (List Int) => PyData.list (List.map PyData.int xs)) w.1) [(0, (.abs (feedA w.2)))])) 0 [] [] (fun _ => rfl) (fun _ => rfl) (by decide) (fun t => trivial) (fun t => trivial) (fun w => rfl) ?_)
  intro X W h t
  generalize t = qfeed_here
  have C := h.cf
  have hb_range : X.mg "range" = none := by rw [h.mg]; exact E.b_range
  have c_m_qtake := (ok_qtake (P := P) (w := w) (base := base) E).cC h (by decide)
  have c_m_qelders := (ok_qelders (P := P) (w := w) (base := base) E).cC h (by decide)
  have n0 : (["_law_feed_here", "_law_rows_here", "_law_way", "_law_make", "_law_now"] : List Str)[0]? = some ("_law_feed_here" : Str) := rfl
  have v0 : visB (defScope (top 19)) "_law_feed_here" = true := by decide +kernel
  have s0 : Sto X (defScope (top 19)) "_law_feed_here" := sto_c h.fn (by decide +kernel)
  have n1 : (["_law_feed_here", "_law_rows_here", "_law_way", "_law_make", "_law_now"] : List Str)[1]? = some ("_law_rows_here" : Str) := rfl
  have v1 : visB (defScope (top 19)) "_law_rows_here" = true := by decide +kernel
  have s1 : Sto X (defScope (top 19)) "_law_rows_here" := sto_c h.fn (by decide +kernel)
  have n2 : (["_law_feed_here", "_law_rows_here", "_law_way", "_law_make", "_law_now"] : List Str)[2]? = some ("_law_way" : Str) := rfl
  have v2 : visB (defScope (top 19)) "_law_way" = true := by decide +kernel
  have s2 : Sto X (defScope (top 19)) "_law_way" := sto_c h.fn (by decide +kernel)
  have n3 : (["_law_feed_here", "_law_rows_here", "_law_way", "_law_make", "_law_now"] : List Str)[3]? = some ("_law_make" : Str) := rfl
  have v3 : visB (defScope (top 19)) "_law_make" = true := by decide +kernel
  have s3 : Sto X (defScope (top 19)) "_law_make" := sto_c h.fn (by decide +kernel)
  have n4 : (["_law_feed_here", "_law_rows_here", "_law_way", "_law_make", "_law_now"] : List Str)[4]? = some ("_law_now" : Str) := rfl
  have v4 : visB (defScope (top 19)) "_law_now" = true := by decide +kernel
  have s4 : Sto X (defScope (top 19)) "_law_now" := sto_c h.fn (by decide +kernel)
  show Ex X W _ _ (m_qrows qfeed_here) _ _ _
  unfold m_qrows
  exact (asΓ [.io (.abs (feedA qfeed_here)), .un, .un, .un, .un] (ex_setF C 1 n1 s1 (EvFP.to (evfp_lst (evap_cons (EvF.ev (evfp_lst eva_nil .nil rfl)) eva_nil) (.cons (.inl rfl) .nil) rfl) [([] : (List Int))] (fun xs : (List (List Int)) => (List.map (fun xs : (List Int) => PyData.list (List.map PyData.int xs)) xs))) fun qrows_here138 => (asΓ [.io (.abs (feedA qfeed_here)), .own (.lst (List.map (fun xs : (List Int) => PyData.list (List.map PyData.int xs)) qrows_here138)), .un, .un, .un] (ex_set (enc := fun qway139 : (Int × Fd) => (PyData.int qway139.1)) (Γ1 := fun qway139 : (Int × Fd) => [.io (.abs (feedA qway139.2)), .own (.lst (List.map (fun xs : (List Int) => PyData.list (List.map PyData.int xs)) qrows_here138)), .un, .un, .un]) C 2 n2 s2 (ev_callCP (as1 := []) (as2 := [.d true (PyData.int (8 : Int))]) C c_m_qtake (fun _ _ => rfl) (by decide +kernel) 0 true (evap_cons (evp_slot C (.inr rfl) n0 v0) (evap_cons evp_int eva_nil)) (fun _ _ => .nil) (qfeed_here, (8 : Int)) rfl .nil (.d .nil) rfl (fun r : (Int × Fd) => (PyData.int r.1)) (fun r : (Int × Fd) => [.io (.abs (feedA r.2)), .own (.lst (List.map (fun xs : (List Int) => PyData.list (List.map PyData.int xs)) qrows_here138)), .un, .un, .un]) (fun t z => nox_m_qtake _ _ z)) fun qway139 => (asΓ [.io (.abs (feedA qway139.2)), .own (.lst (List.map (fun xs : (List Int) => PyData.list (List.map PyData.int xs)) qrows_here138)), .dat true (PyData.int qway139.1), .un, .un] (ex_forS (Γs := (fun s162 : (Fd × (List (List Int))) => [.io (.abs (feedA s162.1)), .own (.lst (List.map (fun xs : (List Int) => PyData.list (List.map PyData.int xs)) s162.2)), .dat true (PyData.int qway139.1), .un, .un])) (is := []) (s0 := fun r154 : (Int × Int × Fd) => (r154.2.2, qrows_here138)) (items := fun r154 : (Int × Int × Fd) => (rng r154.1 r154.2.1)) C (evi_range2 C hb_range (by decide +kernel) (eva_cons (as := fun z151 : (Int × Int × Fd) => [.d true (PyData.int z151.1), .d true (PyData.int z151.2.1)]) (Γk := fun z151 : (Int × Int × Fd) => [.io (.abs (feedA z151.2.2)), .own (.lst (List.map (fun xs : (List Int) => PyData.list (List.map PyData.int xs)) qrows_here138)), .dat true (PyData.int qway139.1), .un, .un]) (fun x143 y150 => (x143, y150.1, y150.2)) (EvP.to evp_int (1 : Int) PyData.int) (fun x143 => (eva_cons (as := fun z149 : (Int × Fd) => [.d true (PyData.int z149.1)]) (Γk := fun z149 : (Int × Fd) => [.io (.abs (feedA z149.2)), .own (.lst (List.map (fun xs : (List Int) => PyData.list (List.map PyData.int xs)) qrows_here138)), .dat true (PyData.int qway139.1), .un, .un]) (fun x147 y148 => (x147.1, x147.2)) (ev_ar  op_add  (EvP.to evp_int (1 : Int) PyData.int) (fun x144 => (ev_callCP (as1 := []) (as2 := [.d true (PyData.int (40 : Int))]) C c_m_qtake (fun _ _ => rfl) (by decide +kernel) 0 true (evap_cons (evp_slot C (.inr rfl) n0 v0) (evap_cons evp_int eva_nil)) (fun _ _ => .nil) (qway139.2, (40 : Int)) rfl .nil (.d .nil) rfl (fun r : (Int × Fd) => (PyData.int r.1)) (fun r : (Int × Fd) => [.io (.abs (feedA r.2)), .own (.lst (List.map (fun xs : (List Int) => PyData.list (List.map PyData.int xs)) qrows_here138)), .dat true (PyData.int qway139.1), .un, .un]) (fun t z => nox_m_qtake _ _ z))) (fun x144 y145 => ((x144 + y145.1), y145.2)) (fun z146 : (Int × Fd) => z146.1) (Γk := fun z146 : (Int × Fd) => [.io (.abs (feedA z146.2)), .own (.lst (List.map (fun xs : (List Int) => PyData.list (List.map PyData.int xs)) qrows_here138)), .dat true (PyData.int qway139.1), .un, .un])) (fun x147 => eva_nil)))) (fun r152 => r152) (fun z153 : (Int × Int × Fd) => [.io (.abs (feedA z153.2.2)), .own (.lst (List.map (fun xs : (List Int) => PyData.list (List.map PyData.int xs)) qrows_here138)), .dat true (PyData.int qway139.1), .un, .un]) (fun z153 : (Int × Int × Fd) => z153.1) (fun z153 : (Int × Int × Fd) => z153.2.1)) (tg_name (fr := true) (enc := PyData.int) C 3 n3 s3) (fun _ => rfl) (fun s162 x155 => (asΓ [.io (.abs (feedA s162.1)), .own (.lst (List.map (fun xs : (List Int) => PyData.list (List.map PyData.int xs)) s162.2)), .dat true (PyData.int qway139.1), .dat true (PyData.int x155), .un] (ex_set C 4 n4 s4 (EvP.to (evp_var C rfl n2 v2) qway139.1 PyData.int) fun qnow163 => (asΓ [.io (.abs (feedA s162.1)), .own (.lst (List.map (fun xs : (List Int) => PyData.list (List.map PyData.int xs)) s162.2)), .dat true (PyData.int qway139.1), .dat true (PyData.int x155), .dat true (PyData.int qnow163)] (ex_ifSP (Γj := (fun j165 : (Fd × Int) => [.io (.abs (feedA j165.1)), .own (.lst (List.map (fun xs : (List Int) => PyData.list (List.map PyData.int xs)) s162.2)), .dat true (PyData.int qway139.1), .dat true (PyData.int x155), .dat true (PyData.int j165.2)])) (EvP.tstC (evp_gt (evp_var C rfl n2 v2) evp_int)) (asΓ [.io (.abs (feedA s162.1)), .own (.lst (List.map (fun xs : (List Int) => PyData.list (List.map PyData.int xs)) s162.2)), .dat true (PyData.int qway139.1), .dat true (PyData.int x155), .dat true (PyData.int qnow163)] (ex_set (enc := fun qnow166 : (Int × Fd) => (PyData.int qnow166.1)) (Γ1 := fun qnow166 : (Int × Fd) => [.io (.abs (feedA qnow166.2)), .own (.lst (List.map (fun xs : (List Int) => PyData.list (List.map PyData.int xs)) s162.2)), .dat true (PyData.int qway139.1), .dat true (PyData.int x155), .dat true (PyData.int qnow163)]) C 4 n4 s4 (ev_callCP (as1 := []) (as2 := [.d true (PyData.int (6 : Int))]) C c_m_qtake (fun _ _ => rfl) (by decide +kernel) 0 true (evap_cons (evp_slot C (.inr rfl) n0 v0) (evap_cons evp_int eva_nil)) (fun _ _ => .nil) (s162.1, (6 : Int)) rfl .nil (.d .nil) rfl (fun r : (Int × Fd) => (PyData.int r.1)) (fun r : (Int × Fd) => [.io (.abs (feedA r.2)), .own (.lst (List.map (fun xs : (List Int) => PyData.list (List.map PyData.int xs)) s162.2)), .dat true (PyData.int qway139.1), .dat true (PyData.int x155), .dat true (PyData.int qnow163)]) (fun t z => nox_m_qtake _ _ z)) fun qnow166 => (ex_nil [] rfl rfl))) (ex_nil [] rfl rfl) (fun j165 => (asΓ [.io (.abs (feedA j165.1)), .own (.lst (List.map (fun xs : (List Int) => PyData.list (List.map PyData.int xs)) s162.2)), .dat true (PyData.int qway139.1), .dat true (PyData.int x155), .dat true (PyData.int j165.2)] (ex_expr (ev_append (enc := (fun xs : (List Int) => PyData.list (List.map PyData.int xs))) (xs := fun r167 : ((List Int) × Fd) => s162.2) (y := fun r167 : ((List Int) × Fd) => r167.1) (Γk := fun z168 : (Fd × (List (List Int))) => [.io (.abs (feedA z168.1)), .own (.lst (List.map (fun xs : (List Int) => PyData.list (List.map PyData.int xs)) z168.2)), .dat true (PyData.int qway139.1), .dat true (PyData.int x155), .dat true (PyData.int j165.2)]) 1 false (evp_slot C (.inl rfl) n1 v1) rfl (EvF.ev (evf_callCP (as1 := []) (as2 := [.d true (PyData.int x155), .d true (PyData.int j165.2)]) C c_m_qelders (fun _ _ => rfl) (by decide +kernel) 0 true (evap_cons (evp_slot C (.inr rfl) n0 v0) (evap_cons (evp_var C rfl n3 v3) (evap_cons (evp_var C rfl n4 v4) eva_nil))) (fun _ _ => .nil) (j165.1, x155, j165.2) rfl .nil (.d (.d .nil)) rfl (fun r : ((List Int) × Fd) => (List.map PyData.int r.1)) (fun r : ((List Int) × Fd) => [.io (.abs (feedA r.2)), .own (.lst (List.map (fun xs : (List Int) => PyData.list (List.map PyData.int xs)) s162.2)), .dat true (PyData.int qway139.1), .dat true (PyData.int x155), .dat true (PyData.int j165.2)]) (fun t z => nox_m_qelders _ _ _ z))) (fun _ => rfl) (fun r167 => (r167.2, (s162.2 ++ [r167.1])))) fun z168 => (ex_nil [3, 4] rfl rfl))))))))) (fun s162 => (asΓ [.io (.abs (feedA s162.1)), .own (.lst (List.map (fun xs : (List Int) => PyData.list (List.map PyData.int xs)) s162.2)), .dat true (PyData.int qway139.1), .un, .un] (ex_retO 1 (evp_slot C (.inl rfl) n1 v1) rfl [(0, (.abs (feedA s162.1)))] ⟨rfl, trivial⟩)))))))))

theorem ok_qrows {P : Program} {w : World} {K : PySem.W.Frag} {mg : Str → Option Value} {base : Heap} (E : Env K mg) : Gv P w K mg base 3 "_law_rows" [] (spC K mg (fun t : Fd => []) (fun t : Fd => ((.abs (feedA t)) : Cl)) (fun t : Fd => []) (fun t => m_qrows t) (fun w : ((List (List Int)) × Fd) => Rs.f (List.map (fun xs : (List Int) => PyData.list (List.map PyData.int xs)) w.1)) (fun w : ((List (List Int)) × Fd) => ((.abs (feedA w.2)) : Cl))) := by
  obtain ⟨f, fd, F, hmg⟩ := E.d_qrows
  exact Gv.of F hmg (fo_qrows E F) (F.bindsN fun _ _ _ _ _ _ us hl => match us, hl with | [_], _ => rfl) .nil

def m_p_are_elders (p_row : (List Int)) (p_make : Int) : R Bool :=
  (R.bind (loopV (fun w : (Fl Unit (Lx Unit Bool)) => w) (fun (s181 : Unit) (x180 : Int) => (if ((decide (x180 < (0 : Int))) || (decide (p_make ≤ x180))) = true then R.bind (R.val (Lx.ex false)) (fun e => R.val ((fun e : (Lx Unit Bool) => (Fl.ex e : (Fl Unit (Lx Unit Bool)))) e)) else (R.val (Fl.nx ())))) p_row ()) (contV (fun (s181 : Unit) => (R.bind (R.bind (R.bind (R.val p_row) fun (r183 : (List Int)) => R.bind (R.req (ndI r183)) fun _ => R.val r183) fun (x184 : (List Int)) => R.bind (R.val ((p_row.length : Nat) : Int)) fun (y185 : Int) => R.val (decide (((x184.length : Nat) : Int) = y185))) fun (r187 : Bool) => (R.val r187))) (fun e : Bool => e)))
theorem sc_p_are_elders : FnScope ["row", "make", "elder"] ["row", "make"] (defScope (top 13)) := ⟨rfl, rfl, rfl, by decide +kernel, rfl, by decide +kernel, by decide +kernel⟩
theorem fo_p_are_elders {P : Program} {w : World} {K : PySem.W.Frag} {mg : Str → Option Value} {base : Heap} (E : Env K mg) {f : Addr} {fd : FuncData} (F : FunD K "are_elders" "are_elders" (defArgs (top 13)) (defBody (top 13)) (defScope (top 13)) [] [] f fd) : FnOk P w K mg base (L2.CX P w) 1 f fd ["row", "make"] (spP K mg (fun t : ((List Int) × Int) => [(PyData.list (List.map PyData.int t.1)), (PyData.int t.2)]) (fun t => m_p_are_elders t.1 t.2) (fun w : Bool => Rs.d (PyData.bool w))) := by
  refine (fn_pure (N := ["row", "make", "elder"]) (ps := ["row", "make"]) F sc_p_are_elders (view := (fun w : Bool => (Fl.ex w : Fl Empty Bool))) (Γf := (fun z : Empty => z.elim)) (Xf := (fun w : Bool => Xo.rt (PyData.bool w) [])) [false, true] (fun _ => rfl) (by decide) (fun t => ⟨(fun q => nomatch q), ⟨fun _ => rfl, trivial⟩⟩) (fun w => rfl) ?_)
  intro X W h t
  obtain ⟨p_row, p_make⟩ := t
  have C := h.cf
  have hb_len : X.mg "len" = none := by rw [h.mg]; exact E.b_len
  have hb_set : X.mg "set" = none := by rw [h.mg]; exact E.b_set
  have n0 : (["row", "make", "elder"] : List Str)[0]? = some ("row" : Str) := rfl
  have v0 : visB (defScope (top 13)) "row" = true := by decide +kernel
  have s0 : Sto X (defScope (top 13)) "row" := sto_c h.fn (by decide +kernel)
  have n1 : (["row", "make", "elder"] : List Str)[1]? = some ("make" : Str) := rfl
  have v1 : visB (defScope (top 13)) "make" = true := by decide +kernel
  have s1 : Sto X (defScope (top 13)) "make" := sto_c h.fn (by decide +kernel)
  have n2 : (["row", "make", "elder"] : List Str)[2]? = some ("elder" : Str) := rfl
  have v2 : visB (defScope (top 13)) "elder" = true := by decide +kernel
  have s2 : Sto X (defScope (top 13)) "elder" := sto_c h.fn (by decide +kernel)
  show Ex X W _ _ (m_p_are_elders p_row p_make) _ _ _
  unfold m_p_are_elders
  exact (asΓ [.dat false (PyData.list (List.map PyData.int p_row)), .dat true (PyData.int p_make), .un] (ex_forP (Γs := (fun s181 : Unit => [.dat false (PyData.list (List.map PyData.int p_row)), .dat true (PyData.int p_make), .un])) (Xr := (fun w : Bool => Xo.rt (PyData.bool w) [])) C [] (evip_list (evp_var C rfl n0 v0)) (tg_nameF (fr := false) (enc := PyData.int) C 2 n2 s2 (fun _ => rfl)) rfl (fun s181 x180 => (asΓ [.dat false (PyData.list (List.map PyData.int p_row)), .dat true (PyData.int p_make), .dat true (PyData.int x180)] (ex_ifEP (fun e : (Lx Unit Bool) => (Fl.ex e : (Fl Unit (Lx Unit Bool)))) (EvW.t (evw_or (EvP.tstC (evp_lt (evp_var C rfl n2 v2) evp_int)) (evw_or1 (EvP.tstC (evp_ge (evp_var C rfl n2 v2) (evp_var C rfl n1 v1)))))) (asΓ [.dat false (PyData.list (List.map PyData.int p_row)), .dat true (PyData.int p_make), .dat true (PyData.int x180)] (ex_retP evp_bool [] trivial)) (ex_nil [2] rfl rfl)))) (fun s181 => (asΓ [.dat false (PyData.list (List.map PyData.int p_row)), .dat true (PyData.int p_make), .un] (ex_ret (ev_eqM C eqt_int (ev_lenSet (ns := fun r183 : (List Int) => r183) C (by decide +kernel) hb_len (by decide +kernel) hb_set (EvP.to (evp_var C rfl n0 v0) p_row (fun xs : (List Int) => PyData.list (List.map PyData.int xs)))) (fun x184 => (EvP.to (evp_lenL (enc := PyData.int) (xs := p_row) C hb_len (by decide +kernel) (evp_var C rfl n0 v0) .d) ((p_row.length : Nat) : Int) PyData.int)) (fun x184 y185 => (decide (((x184.length : Nat) : Int) = y185))) (fun z186 : Bool => z186) (Γk := fun z186 : Bool => [.dat false (PyData.list (List.map PyData.int p_row)), .dat true (PyData.int p_make), .un])) (io := fun r187 => []) (hio := fun r187 => trivial))))))

theorem ok_p_are_elders {P : Program} {w : World} {K : PySem.W.Frag} {mg : Str → Option Value} {base : Heap} (E : Env K mg) : Gv P w K mg base 1 "are_elders" [] (spP K mg (fun t : ((List Int) × Int) => [(PyData.list (List.map PyData.int t.1)), (PyData.int t.2)]) (fun t => m_p_are_elders t.1 t.2) (fun w : Bool => Rs.d (PyData.bool w))) := by
  obtain ⟨f, fd, F, hmg⟩ := E.d_p_are_elders
  exact Gv.of F hmg (fo_p_are_elders E F) (F.bindsN fun _ _ _ _ _ _ us hl => match us, hl with | [_, _], _ => rfl) .nil

def m_p_net_of (p_rows : (List (List Int))) : R (List (List Int)) :=
  (if ((decide (((p_rows.length : Nat) : Int) < (1 : Int))) || (decide ((40 : Int) < ((p_rows.length : Nat) : Int)))) = true then R.bad else (R.bind (R.val ([] : (List (List Int)))) fun (p_net194 : (List (List Int))) => (R.bind (R.fold (fun (s198 : (List (List Int))) (x195 : (Int × (List Int))) => (R.bind (m_p_are_elders x195.2 x195.1) fun (b199 : Bool) => R.bind (if (!b199) = true then R.bad else (R.val ())) fun (j200 : Unit) => (R.bind (R.req (ltS s198)) fun _ => R.bind (R.val (s198 ++ [(sortI x195.2)])) fun (p_net201 : (List (List Int))) => (R.val p_net201)))) (enumI p_rows) p_net194) fun (s198 : (List (List Int))) => (R.val s198))))
theorem sc_p_net_of : FnScope ["rows", "net", "make", "row"] ["rows"] (defScope (top 14)) := ⟨rfl, rfl, rfl, by decide +kernel, rfl, by decide +kernel, by decide +kernel⟩
theorem fo_p_net_of {P : Program} {w : World} {K : PySem.W.Frag} {mg : Str → Option Value} {base : Heap} (E : Env K mg) {f : Addr} {fd : FuncData} (F : FunD K "net_of" "net_of" (defArgs (top 14)) (defBody (top 14)) (defScope (top 14)) [] [] f fd) : FnOk P w K mg base (L2.CX P w) 2 f fd ["rows"] (spP K mg (fun t : (List (List Int)) => [(PyData.list (List.map (fun xs : (List Int) => PyData.list (List.map PyData.int xs)) t))]) (fun t => m_p_net_of t) (fun w : (List (List Int)) => Rs.d (PyData.tuple (List.map (fun xs : (List Int) => PyData.tuple (List.map PyData.int xs)) w)))) := by
  refine (fn_pure (N := ["rows", "net", "make", "row"]) (ps := ["rows"]) F sc_p_net_of (view := (fun w : (List (List Int)) => (Fl.ex w : Fl Empty (List (List Int))))) (Γf := (fun z : Empty => z.elim)) (Xf := (fun w : (List (List Int)) => Xo.rt (PyData.tuple (List.map (fun xs : (List Int) => PyData.tuple (List.map PyData.int xs)) w)) [])) [false] (fun _ => rfl) (by decide) (fun t => ⟨(fun q => nomatch q), trivial⟩) (fun w => rfl) ?_)
  intro X W h t
  generalize t = p_rows
  have C := h.cf
  have hg_MOST : ∃ t, X.mg "MOST" = some (.int 40 t) := by rw [h.mg]; exact E.g_MOST
  have hb_len : X.mg "len" = none := by rw [h.mg]; exact E.b_len
  have hb_enumerate : X.mg "enumerate" = none := by rw [h.mg]; exact E.b_enumerate
  have hb_tuple : X.mg "tuple" = none := by rw [h.mg]; exact E.b_tuple
  have hb_sorted : X.mg "sorted" = none := by rw [h.mg]; exact E.b_sorted
  have c_m_p_are_elders := (ok_p_are_elders (P := P) (w := w) (base := base) E).cP h (by decide)
  have n0 : (["rows", "net", "make", "row"] : List Str)[0]? = some ("rows" : Str) := rfl
  have v0 : visB (defScope (top 14)) "rows" = true := by decide +kernel
  have s0 : Sto X (defScope (top 14)) "rows" := sto_c h.fn (by decide +kernel)
  have n1 : (["rows", "net", "make", "row"] : List Str)[1]? = some ("net" : Str) := rfl
  have v1 : visB (defScope (top 14)) "net" = true := by decide +kernel
  have s1 : Sto X (defScope (top 14)) "net" := sto_c h.fn (by decide +kernel)
  have n2 : (["rows", "net", "make", "row"] : List Str)[2]? = some ("make" : Str) := rfl
  have v2 : visB (defScope (top 14)) "make" = true := by decide +kernel
  have s2 : Sto X (defScope (top 14)) "make" := sto_c h.fn (by decide +kernel)
  have n3 : (["rows", "net", "make", "row"] : List Str)[3]? = some ("row" : Str) := rfl
  have v3 : visB (defScope (top 14)) "row" = true := by decide +kernel
  have s3 : Sto X (defScope (top 14)) "row" := sto_c h.fn (by decide +kernel)
  show Ex X W _ _ (m_p_net_of p_rows) _ _ _
  unfold m_p_net_of
  exact (asΓ [.dat false (PyData.list (List.map (fun xs : (List Int) => PyData.list (List.map PyData.int xs)) p_rows)), .un, .un, .un] (ex_ifXP (viewA := (fun w : (List (List Int)) => (Fl.ex w : Fl Empty (List (List Int))))) (EvW.t (evw_or (EvP.tstC (evp_lt (evp_lenL (enc := (fun xs : (List Int) => PyData.list (List.map PyData.int xs))) (xs := p_rows) C hb_len (by decide +kernel) (evp_var C rfl n0 v0) .d) evp_int)) (evw_or1 (EvP.tstC (evp_gt (evp_lenL (enc := (fun xs : (List Int) => PyData.list (List.map PyData.int xs))) (xs := p_rows) C hb_len (by decide +kernel) (evp_var C rfl n0 v0) .d) (evp_gint C (by decide +kernel) hg_MOST)))))) (asΓ [.dat false (PyData.list (List.map (fun xs : (List Int) => PyData.list (List.map PyData.int xs)) p_rows)), .un, .un, .un] ex_bad) (asΓ [.dat false (PyData.list (List.map (fun xs : (List Int) => PyData.list (List.map PyData.int xs)) p_rows)), .un, .un, .un] (ex_setF C 1 n1 s1 (EvFP.to (evfp_lst eva_nil .nil rfl) ([] : (List (List Int))) (fun xs : (List (List Int)) => (List.map (fun xs : (List Int) => PyData.tuple (List.map PyData.int xs)) xs))) fun p_net194 => (asΓ [.dat false (PyData.list (List.map (fun xs : (List Int) => PyData.list (List.map PyData.int xs)) p_rows)), .own (.lst (List.map (fun xs : (List Int) => PyData.tuple (List.map PyData.int xs)) p_net194)), .un, .un] (ex_forSP (Γs := (fun s198 : (List (List Int)) => [.dat false (PyData.list (List.map (fun xs : (List Int) => PyData.list (List.map PyData.int xs)) p_rows)), .own (.lst (List.map (fun xs : (List Int) => PyData.tuple (List.map PyData.int xs)) s198)), .un, .un])) C [] (evip_enum (enc := (fun xs : (List Int) => PyData.list (List.map PyData.int xs))) (xs := p_rows) C hb_enumerate (by decide +kernel) (evp_var C rfl n0 v0)) (tg_tup2 C (tg_nameF (fr := false) (enc := (fun x : (Int × (List Int)) => (PyData.int x.1))) C 2 n2 s2 (fun _ => rfl)) (tg_name (fr := false) (enc := (fun x : (Int × (List Int)) => (PyData.list (List.map PyData.int x.2)))) C 3 n3 s3)) rfl (fun s198 x195 => (asΓ [.dat false (PyData.list (List.map (fun xs : (List Int) => PyData.list (List.map PyData.int xs)) p_rows)), .own (.lst (List.map (fun xs : (List Int) => PyData.tuple (List.map PyData.int xs)) s198)), .dat true (PyData.int x195.1), .dat false (PyData.list (List.map PyData.int x195.2))] (ex_ifS (Γj := (fun j200 : Unit => [.dat false (PyData.list (List.map (fun xs : (List Int) => PyData.list (List.map PyData.int xs)) p_rows)), .own (.lst (List.map (fun xs : (List Int) => PyData.tuple (List.map PyData.int xs)) s198)), .dat true (PyData.int x195.1), .dat false (PyData.list (List.map PyData.int x195.2))])) (evt_notM (Ev.tst (ev_callP C c_m_p_are_elders (by decide +kernel) (evap_cons (evp_var C rfl n3 v3) (evap_cons (evp_var C rfl n2 v2) eva_nil)) (fun _ _ => .nil) (x195.2, x195.1) (.d (.d .nil)) rfl (fun r : Bool => (PyData.bool r))))) (fun b199 => (asΓ [.dat false (PyData.list (List.map (fun xs : (List Int) => PyData.list (List.map PyData.int xs)) p_rows)), .own (.lst (List.map (fun xs : (List Int) => PyData.tuple (List.map PyData.int xs)) s198)), .dat true (PyData.int x195.1), .dat false (PyData.list (List.map PyData.int x195.2))] ex_bad)) (fun b199 => (ex_nil [] rfl rfl)) (fun j200 => (asΓ [.dat false (PyData.list (List.map (fun xs : (List Int) => PyData.list (List.map PyData.int xs)) p_rows)), .own (.lst (List.map (fun xs : (List Int) => PyData.tuple (List.map PyData.int xs)) s198)), .dat true (PyData.int x195.1), .dat false (PyData.list (List.map PyData.int x195.2))] (ex_appP (enc := (fun xs : (List Int) => PyData.tuple (List.map PyData.int xs))) (xs := s198) (y := (sortI x195.2)) 1 false (evp_slot C (.inl rfl) n1 v1) rfl (ev_tuple C hb_tuple (by decide +kernel) (EvF.ev (evf_sorted (ns := fun _ => x195.2) C hb_sorted (by decide +kernel) (evp_var C rfl n3 v3)))) fun p_net201 => (ex_nil [2, 3] rfl rfl))))))) (fun s198 => (asΓ [.dat false (PyData.list (List.map (fun xs : (List Int) => PyData.list (List.map PyData.int xs)) p_rows)), .own (.lst (List.map (fun xs : (List Int) => PyData.tuple (List.map PyData.int xs)) s198)), .un, .un] (ex_retP (evp_tupleO C hb_tuple (by decide +kernel) (evp_slot C (.inl rfl) n1 v1) rfl) [] trivial)))))))))

theorem ok_p_net_of {P : Program} {w : World} {K : PySem.W.Frag} {mg : Str → Option Value} {base : Heap} (E : Env K mg) : Gv P w K mg base 2 "net_of" [] (spP K mg (fun t : (List (List Int)) => [(PyData.list (List.map (fun xs : (List Int) => PyData.list (List.map PyData.int xs)) t))]) (fun t => m_p_net_of t) (fun w : (List (List Int)) => Rs.d (PyData.tuple (List.map (fun xs : (List Int) => PyData.tuple (List.map PyData.int xs)) w)))) := by
  obtain ⟨f, fd, F, hmg⟩ := E.d_p_net_of
  exact Gv.of F hmg (fo_p_net_of E F) (F.bindsN fun _ _ _ _ _ _ us hl => match us, hl with | [_], _ => rfl) .nil

def m_qcomings (qrows_here : (List (List Int))) : R (List (List Bool)) :=
  (R.bind (R.val ([] : (List (List Bool)))) fun (qfound371 : (List (List Bool))) => (R.bind (R.req (cRng 0 ((qrows_here.length : Nat) : Int))) fun _ => (R.bind (R.fold (fun (s456 : (List (List Bool))) (x373 : Int) => (R.bind (R.req (cRng 0 ((qrows_here.length : Nat) : Int))) fun _ => (R.bind (R.bind (R.req (szB (rng 0 ((qrows_here.length : Nat) : Int)))) fun _ => R.val (List.map (fun x458 : Int => (decide (x458 = x373))) (List.filter (fun x458 : Int => true) (rng 0 ((qrows_here.length : Nat) : Int))))) fun (qown459 : (List Bool)) => (R.bind (R.ofO (atI qrows_here x373)) fun (x460 : (List Int)) => (R.bind (R.fold (fun (s500 : (List Bool)) (x462 : Int) => (R.bind (R.req (cRng 0 (x462 + (1 : Int)))) fun _ => (R.bind (R.fold (fun (s521 : (List Bool)) (x503 : Int) => (R.bind (R.bind (R.bind (R.ofO (atI s521 x503)) fun (x528 : Bool) => (R.val x528)) fun (x530 : Bool) => if x530 = true then R.val true else R.bind (R.bind (R.ofO (atI s456 x462)) fun (x531 : (List Bool)) => (R.bind (R.ofO (atI x531 x503)) fun (x533 : Bool) => (R.val x533))) fun (y535 : Bool) => R.val y535) fun (y537 : Bool) => R.bind (R.ofO (ixN (List.length s521) x503)) fun (j538 : Nat) => (R.val (List.set s521 j538 y537)))) (rng 0 (x462 + (1 : Int))) s500) fun (s521 : (List Bool)) => (R.val s521)))) x460 qown459) fun (s500 : (List Bool)) => (R.bind (R.req (ltS s456)) fun _ => R.bind (R.val (s456 ++ [s500])) fun (qfound501 : (List (List Bool))) => (R.val qfound501))))))) (rng 0 ((qrows_here.length : Nat) : Int)) qfound371) fun (s456 : (List (List Bool))) => (R.val s456))))
theorem sc_qcomings : FnScope ["_law_rows_here", "_law_found", "_law_make", "_law_own", "_law_elder", "_law_other"] ["_law_rows_here"] (defScope (top 20)) := ⟨rfl, rfl, rfl, by decide +kernel, rfl, by decide +kernel, by decide +kernel⟩
theorem fo_qcomings {P : Program} {w : World} {K : PySem.W.Frag} {mg : Str → Option Value} {base : Heap} (E : Env K mg) {f : Addr} {fd : FuncData} (F : FunD K "_law_comings" "_law_comings" (defArgs (top 20)) (defBody (top 20)) (defScope (top 20)) [] [] f fd) : FnOk P w K mg base (L2.CX P w) 1 f fd ["_law_rows_here"] (spP K mg (fun t : (List (List Int)) => [(PyData.list (List.map (fun xs : (List Int) => PyData.list (List.map PyData.int xs)) t))]) (fun t => m_qcomings t) (fun w : (List (List Bool)) => Rs.f (List.map (fun xs : (List Bool) => PyData.list (List.map PyData.bool xs)) w))) := by
  refine (fn_pure (N := ["_law_rows_here", "_law_found", "_law_make", "_law_own", "_law_elder", "_law_other"]) (ps := ["_law_rows_here"]) F sc_qcomings (view := (fun w : (List (List Bool)) => (Fl.ex w : Fl Empty (List (List Bool))))) (Γf := (fun z : Empty => z.elim)) (Xf := (fun w : (List (List Bool)) => Xo.rtF (List.map (fun xs : (List Bool) => PyData.list (List.map PyData.bool xs)) w) [])) [false] (fun _ => rfl) (by decide) (fun t => ⟨(fun q => nomatch q), trivial⟩) (fun w => rfl) ?_)
  intro X W h t
  generalize t = qrows_here
  have C := h.cf
  have hb_range : X.mg "range" = none := by rw [h.mg]; exact E.b_range
  have hb_len : X.mg "len" = none := by rw [h.mg]; exact E.b_len
  have n0 : (["_law_rows_here", "_law_found", "_law_make", "_law_own", "_law_elder", "_law_other"] : List Str)[0]? = some ("_law_rows_here" : Str) := rfl
  have v0 : visB (defScope (top 20)) "_law_rows_here" = true := by decide +kernel
  have s0 : Sto X (defScope (top 20)) "_law_rows_here" := sto_c h.fn (by decide +kernel)
  have n1 : (["_law_rows_here", "_law_found", "_law_make", "_law_own", "_law_elder", "_law_other"] : List Str)[1]? = some ("_law_found" : Str) := rfl
  have v1 : visB (defScope (top 20)) "_law_found" = true := by decide +kernel
  have s1 : Sto X (defScope (top 20)) "_law_found" := sto_c h.fn (by decide +kernel)
  have n2 : (["_law_rows_here", "_law_found", "_law_make", "_law_own", "_law_elder", "_law_other"] : List Str)[2]? = some ("_law_make" : Str) := rfl
  have v2 : visB (defScope (top 20)) "_law_make" = true := by decide +kernel
  have s2 : Sto X (defScope (top 20)) "_law_make" := sto_c h.fn (by decide +kernel)
  have n3 : (["_law_rows_here", "_law_found", "_law_make", "_law_own", "_law_elder", "_law_other"] : List Str)[3]? = some ("_law_own" : Str) := rfl
  have v3 : visB (defScope (top 20)) "_law_own" = true := by decide +kernel
  have s3 : Sto X (defScope (top 20)) "_law_own" := sto_c h.fn (by decide +kernel)
  have n4 : (["_law_rows_here", "_law_found", "_law_make", "_law_own", "_law_elder", "_law_other"] : List Str)[4]? = some ("_law_elder" : Str) := rfl
  have v4 : visB (defScope (top 20)) "_law_elder" = true := by decide +kernel
  have s4 : Sto X (defScope (top 20)) "_law_elder" := sto_c h.fn (by decide +kernel)
  have n5 : (["_law_rows_here", "_law_found", "_law_make", "_law_own", "_law_elder", "_law_other"] : List Str)[5]? = some ("_law_other" : Str) := rfl
  have v5 : visB (defScope (top 20)) "_law_other" = true := by decide +kernel
  have s5 : Sto X (defScope (top 20)) "_law_other" := sto_c h.fn (by decide +kernel)
  show Ex X W _ _ (m_qcomings qrows_here) _ _ _
  unfold m_qcomings
  exact (asΓ [.dat false (PyData.list (List.map (fun xs : (List Int) => PyData.list (List.map PyData.int xs)) qrows_here)), .un, .un, .un, .un, .un] (ex_setF C 1 n1 s1 (EvFP.to (evfp_lst eva_nil .nil rfl) ([] : (List (List Bool))) (fun xs : (List (List Bool)) => (List.map (fun xs : (List Bool) => PyData.list (List.map PyData.bool xs)) xs))) fun qfound371 => (asΓ [.dat false (PyData.list (List.map (fun xs : (List Int) => PyData.list (List.map PyData.int xs)) qrows_here)), .own (.lst (List.map (fun xs : (List Bool) => PyData.list (List.map PyData.bool xs)) qfound371)), .un, .un, .un, .un] (ex_req fun h372 => (ex_forSP (Γs := (fun s456 : (List (List Bool)) => [.dat false (PyData.list (List.map (fun xs : (List Int) => PyData.list (List.map PyData.int xs)) qrows_here)), .own (.lst (List.map (fun xs : (List Bool) => PyData.list (List.map PyData.bool xs)) s456)), .un, .un, .un, .un])) C [] (evip_range1 C hb_range (by decide +kernel) h372 (evp_lenL (enc := (fun xs : (List Int) => PyData.list (List.map PyData.int xs))) (xs := qrows_here) C hb_len (by decide +kernel) (evp_var C rfl n0 v0) .d)) (tg_name (fr := true) (enc := PyData.int) C 2 n2 s2) rfl (fun s456 x373 => (asΓ [.dat false (PyData.list (List.map (fun xs : (List Int) => PyData.list (List.map PyData.int xs)) qrows_here)), .own (.lst (List.map (fun xs : (List Bool) => PyData.list (List.map PyData.bool xs)) s456)), .dat true (PyData.int x373), .un, .un, .un] (ex_req fun h457 => (ex_setG C 3 (set_compP (own := [("_law_other", 5)]) (items := (rng 0 ((qrows_here.length : Nat) : Int))) (encO := PyData.bool) (Γ0 := [.dat false (PyData.list (List.map (fun xs : (List Int) => PyData.list (List.map PyData.int xs)) qrows_here)), .own (.lst (List.map (fun xs : (List Bool) => PyData.list (List.map PyData.bool xs)) s456)), .dat true (PyData.int x373), .un, .un, .un]) (b := fun x458 : Int => true) (v := fun x458 : Int => (decide (x458 = x373))) C rfl n3 (by decide +kernel) rfl (by decide +kernel) ⟨(evip_range1 C hb_range (by decide +kernel) h457 (evp_lenL (enc := (fun xs : (List Int) => PyData.list (List.map PyData.int xs))) (xs := qrows_here) C hb_len (by decide +kernel) (evp_var C rfl n0 v0) .d)), (by decide +kernel), (fun _ _ _ _ _ => (tg_name (fr := true) (enc := PyData.int) (Cf.blk C) 5 n5 (sto_l (by decide +kernel)))), (fun _ _ _ _ _ x458 => evts_tt), (fun _ _ _ _ _ x458 => (EvP.to (evp_eqI (Cf.blk C) (evp_var (Cf.blk C) rfl n5 (by decide +kernel)) (evp_var (Cf.blk C) rfl n2 (by decide +kernel))) (decide (x458 = x373)) PyData.bool)), rfl, (by decide), (fun _ => rfl), (un1 rfl), (fun _ => rfl)⟩) fun qown459 => (asΓ [.dat false (PyData.list (List.map (fun xs : (List Int) => PyData.list (List.map PyData.int xs)) qrows_here)), .own (.lst (List.map (fun xs : (List Bool) => PyData.list (List.map PyData.bool xs)) s456)), .dat true (PyData.int x373), .own (.lst (List.map PyData.bool qown459)), .un, .un] (ex_pre fun x460 h461 => (ex_forSP (Γs := (fun s500 : (List Bool) => [.dat false (PyData.list (List.map (fun xs : (List Int) => PyData.list (List.map PyData.int xs)) qrows_here)), .own (.lst (List.map (fun xs : (List Bool) => PyData.list (List.map PyData.bool xs)) s456)), .dat true (PyData.int x373), .own (.lst (List.map PyData.bool s500)), .un, .un])) C [] (evip_list (evp_ixL (enc := (fun xs : (List Int) => PyData.list (List.map PyData.int xs))) (xs := qrows_here) (evp_var C rfl n0 v0) (evp_var C rfl n2 v2) h461)) (tg_nameF (fr := false) (enc := PyData.int) C 4 n4 s4 (fun _ => rfl)) rfl (fun s500 x462 => (asΓ [.dat false (PyData.list (List.map (fun xs : (List Int) => PyData.list (List.map PyData.int xs)) qrows_here)), .own (.lst (List.map (fun xs : (List Bool) => PyData.list (List.map PyData.bool xs)) s456)), .dat true (PyData.int x373), .own (.lst (List.map PyData.bool s500)), .dat true (PyData.int x462), .un] (ex_req fun h502 => (ex_forSP (Γs := (fun s521 : (List Bool) => [.dat false (PyData.list (List.map (fun xs : (List Int) => PyData.list (List.map PyData.int xs)) qrows_here)), .own (.lst (List.map (fun xs : (List Bool) => PyData.list (List.map PyData.bool xs)) s456)), .dat true (PyData.int x373), .own (.lst (List.map PyData.bool s521)), .dat true (PyData.int x462), .un])) C [] (evip_range1 C hb_range (by decide +kernel) h502 (evp_add (evp_var C rfl n4 v4) evp_int)) (tg_name (fr := true) (enc := PyData.int) C 5 n5 s5) rfl (fun s521 x503 => (asΓ [.dat false (PyData.list (List.map (fun xs : (List Int) => PyData.list (List.map PyData.int xs)) qrows_here)), .own (.lst (List.map (fun xs : (List Bool) => PyData.list (List.map PyData.bool xs)) s456)), .dat true (PyData.int x373), .own (.lst (List.map PyData.bool s521)), .dat true (PyData.int x462), .dat true (PyData.int x503)] (ex_item (enc := PyData.bool) (xs := fun y537 : Bool => s521) (y := fun y537 : Bool => y537) (n := fun y537 : Bool => x503) C 3 false (evv_orM (Γk := fun z536 : Bool => [.dat false (PyData.list (List.map (fun xs : (List Int) => PyData.list (List.map PyData.int xs)) qrows_here)), .own (.lst (List.map (fun xs : (List Bool) => PyData.list (List.map PyData.bool xs)) s456)), .dat true (PyData.int x373), .own (.lst (List.map PyData.bool s521)), .dat true (PyData.int x462), .dat true (PyData.int x503)]) (bk := fun z536 : Bool => z536) (ev_pre fun x528 h529 => (EvP.to (evp_ixLO (enc := PyData.bool) (xs := s521) (evp_slot C (.inl rfl) n3 v3) (.inl rfl) (evp_var C rfl n5 v5) h529) x528 PyData.bool)) (fun x530 => (evv_oneM (ev_pre fun x531 h532 => (ev_pre fun x533 h534 => (EvP.to (evp_ixL (enc := PyData.bool) (xs := x531) (evp_ixLO (enc := (fun xs : (List Bool) => PyData.list (List.map PyData.bool xs))) (xs := s456) (evp_slot C (.inl rfl) n1 v1) (.inl rfl) (evp_var C rfl n4 v4) h532) (evp_var C rfl n5 v5) h534) x533 PyData.bool))))) (fun x530 => true) (fun x530 y535 => y535)) (fun y537 => (evp_slot C (.inl rfl) n3 v3)) (fun y537 => (evp_var C rfl n5 v5)) (fun _ => rfl) fun y537 j538 => (ex_nil [5] rfl rfl)))) (fun s521 => (ex_nil [4] rfl rfl)))))) (fun s500 => (asΓ [.dat false (PyData.list (List.map (fun xs : (List Int) => PyData.list (List.map PyData.int xs)) qrows_here)), .own (.lst (List.map (fun xs : (List Bool) => PyData.list (List.map PyData.bool xs)) s456)), .dat true (PyData.int x373), .own (.lst (List.map PyData.bool s500)), .un, .un] (ex_frz 3 rfl (asΓ [.dat false (PyData.list (List.map (fun xs : (List Int) => PyData.list (List.map PyData.int xs)) qrows_here)), .own (.lst (List.map (fun xs : (List Bool) => PyData.list (List.map PyData.bool xs)) s456)), .dat true (PyData.int x373), .dat true (PyData.list (List.map PyData.bool s500)), .un, .un] (ex_appP (enc := (fun xs : (List Bool) => PyData.list (List.map PyData.bool xs))) (xs := s456) (y := s500) 1 false (evp_slot C (.inl rfl) n1 v1) rfl (evp_var C rfl n3 v3) fun qfound501 => (ex_nil [2, 3] rfl rfl))))))))))))) (fun s456 => (asΓ [.dat false (PyData.list (List.map (fun xs : (List Int) => PyData.list (List.map PyData.int xs)) qrows_here)), .own (.lst (List.map (fun xs : (List Bool) => PyData.list (List.map PyData.bool xs)) s456)), .un, .un, .un, .un] (ex_retO 1 (evp_slot C (.inl rfl) n1 v1) rfl [] trivial))))))))

theorem ok_qcomings {P : Program} {w : World} {K : PySem.W.Frag} {mg : Str → Option Value} {base : Heap} (E : Env K mg) : Gv P w K mg base 1 "_law_comings" [] (spP K mg (fun t : (List (List Int)) => [(PyData.list (List.map (fun xs : (List Int) => PyData.list (List.map PyData.int xs)) t))]) (fun t => m_qcomings t) (fun w : (List (List Bool)) => Rs.f (List.map (fun xs : (List Bool) => PyData.list (List.map PyData.bool xs)) w))) := by
  obtain ⟨f, fd, F, hmg⟩ := E.d_qcomings
  exact Gv.of F hmg (fo_qcomings E F) (F.bindsN fun _ _ _ _ _ _ us hl => match us, hl with | [_], _ => rfl) .nil

def m_qsome (qfeed_here : Fd) (qmany : Int) (qshare : Int) : R ((List Int) × Fd) :=
  (if (decide (qshare = (0 : Int))) = true then (R.val (([] : (List Int)), qfeed_here)) else (R.bind (R.req (cRng 0 qmany)) fun _ => (R.bind (R.bind (R.val ()) fun _ => R.bind (R.req (szB (rng 0 qmany))) fun _ => compR (fun (s641 : Fd) (x637 : Int) => (R.bind (m_qtake s641 qshare) fun (x642 : (Int × Fd)) => R.bind (R.val (0 : Int)) fun (y643 : Int) => R.val ((decide (x642.1 = y643)), x642.2))) (fun t645 : (Bool × Fd) => t645.1) (fun t645 : (Bool × Fd) => t645.2) (fun (t645 : (Bool × Fd)) (x637 : Int) => R.val (x637, t645.2)) (fun z646 : (Int × Fd) => z646.2) (fun z646 : (Int × Fd) => z646.1) (rng 0 qmany) qfeed_here) fun (qfound647 : (Fd × List Int)) => (R.bind (R.bind (R.bind (m_qtake qfound647.1 (3 : Int)) fun (x648 : (Int × Fd)) => R.bind (R.val ()) fun (y649 : Unit) => R.val (x648.1, x648.2)) fun (r651 : (Int × Fd)) => if cRng 0 r651.1 = true then R.val r651 else R.bad) fun (r653 : (Int × Fd)) => R.bind (R.fold (fun (s684 : (Fd × (List Int))) (x654 : Int) => (R.bind (if (!(decide (s684.2 = ([] : (List Int))))) = true then (R.bind (R.bind (R.bind (m_qtake s684.1 (((s684.2.length : Nat) : Int) + (1 : Int))) fun (x703 : (Int × Fd)) => R.bind (R.bind (R.bind (R.val ()) fun (_ : Unit) => R.bind (m_qtake x703.2 ((s684.2.length : Nat) : Int)) fun (y704 : (Int × Fd)) => R.bind (R.ofO (atI s684.2 y704.1)) fun (w705 : Int) => R.val (w705, y704.2)) fun (x707 : (Int × Fd)) => R.bind (R.val ()) fun (y708 : Unit) => R.val (x707.1, x707.2)) fun (y710 : (Int × Fd)) => R.val (x703.1, y710.1, y710.2)) fun (r712 : (Int × Int × Fd)) => R.bind (R.req (cIns s684.2 r712.1)) fun _ => R.val (r712.2.2, (insI s684.2 r712.1 r712.2.1))) fun (z713 : (Fd × (List Int))) => (R.val (z713.1, z713.2))) else (R.val (s684.1, s684.2))) fun (j699 : (Fd × (List Int))) => (R.val (j699.1, j699.2)))) (rng 0 r653.1) (r653.2, qfound647.2)) fun (s684 : (Fd × (List Int))) => (R.val (s684.2, s684.1))))))
theorem nox_m_qsome (qfeed_here : Fd) (qmany : Int) (qshare : Int) : NoX (m_qsome qfeed_here qmany qshare) := by
  unfold m_qsome
  repeat' first | exact nox_val _ | exact nox_bad | exact nox_ofO _ | exact nox_req _ | exact nox_compR _ _ | exact nox_comp _ | exact nox_m_qtake _ _ | refine nox_bind ?_ fun _ => ?_ | refine nox_fold (fun _ _ => ?_) _ _ | refine nox_loopV (fun _ _ => ?_) _ _ | refine nox_contV (fun _ => ?_) _ | refine nox_contJ (fun _ => ?_) _ | refine nox_whl (fun _ => ?_) _ _ | refine nox_ite ?_ ?_ | split
theorem sc_qsome : FnScope ["_law_feed_here", "_law_many", "_law_share", "_law_found", "_law_k", "_law_make"] ["_law_feed_here", "_law_many", "_law_share"] (defScope (top 21)) := ⟨rfl, rfl, rfl, by decide +kernel, rfl, by decide +kernel, by decide +kernel⟩
theorem fo_qsome {P : Program} {w : World} {K : PySem.W.Frag} {mg : Str → Option Value} {base : Heap} (E : Env K mg) {f : Addr} {fd : FuncData} (F : FunD K "_law_some" "_law_some" (defArgs (top 21)) (defBody (top 21)) (defScope (top 21)) [] [] f fd) : FnOk P w K mg base (L2.CX P w) 2 f fd ["_law_feed_here", "_law_many", "_law_share"] (spC K mg (fun t : (Fd × Int × Int) => []) (fun t : (Fd × Int × Int) => ((.abs (feedA t.1)) : Cl)) (fun t : (Fd × Int × Int) => [(PyData.int t.2.1), (PyData.int t.2.2)]) (fun t => m_qsome t.1 t.2.1 t.2.2) (fun w : ((List Int) × Fd) => Rs.f (List.map PyData.int w.1)) (fun w : ((List Int) × Fd) => ((.abs (feedA w.2)) : Cl))) := by
  refine (fn_cell (N := ["_law_feed_here", "_law_many", "_law_share", "_law_found", "_law_k", "_law_make"]) (ps := ["_law_feed_here", "_law_many", "_law_share"]) F sc_qsome (view := (fun w : ((List Int) × Fd) => (Fl.ex w : Fl Empty ((List Int) × Fd)))) (Γf := (fun z : Empty => z.elim)) (Xf := (fun w : ((List Int) × Fd) => Xo.rtF (List.map PyData.int w.1) [(0, (.abs (feedA w.2)))])) 0 [] [true, true] (fun _ => rfl) (fun _ => rfl) (by decide) (fun t => trivial) (fun t => ⟨fun _ => rfl, ⟨fun _ => rfl, trivial⟩⟩) (fun w => rfl) ?_)
  intro X W h t
  obtain ⟨qfeed_here, qmany, qshare⟩ := t
  have C := h.cf
  have hb_range : X.mg "range" = none := by rw [h.mg]; exact E.b_range
  have hb_len : X.mg "len" = none := by rw [h.mg]; exact E.b_len
  have c_m_qtake := (ok_qtake (P := P) (w := w) (base := base) E).cC h (by decide)
  have n0 : (["_law_feed_here", "_law_many", "_law_share", "_law_found", "_law_k", "_law_make"] : List Str)[0]? = some ("_law_feed_here" : Str) := rfl
  have v0 : visB (defScope (top 21)) "_law_feed_here" = true := by decide +kernel
  have s0 : Sto X (defScope (top 21)) "_law_feed_here" := sto_c h.fn (by decide +kernel)
  have n1 : (["_law_feed_here", "_law_many", "_law_share", "_law_found", "_law_k", "_law_make"] : List Str)[1]? = some ("_law_many" : Str) := rfl
  have v1 : visB (defScope (top 21)) "_law_many" = true := by decide +kernel
  have s1 : Sto X (defScope (top 21)) "_law_many" := sto_c h.fn (by decide +kernel)
  have n2 : (["_law_feed_here", "_law_many", "_law_share", "_law_found", "_law_k", "_law_make"] : List Str)[2]? = some ("_law_share" : Str) := rfl
  have v2 : visB (defScope (top 21)) "_law_share" = true := by decide +kernel
  have s2 : Sto X (defScope (top 21)) "_law_share" := sto_c h.fn (by decide +kernel)
  have n3 : (["_law_feed_here", "_law_many", "_law_share", "_law_found", "_law_k", "_law_make"] : List Str)[3]? = some ("_law_found" : Str) := rfl
  have v3 : visB (defScope (top 21)) "_law_found" = true := by decide +kernel
  have s3 : Sto X (defScope (top 21)) "_law_found" := sto_c h.fn (by decide +kernel)
  have n4 : (["_law_feed_here", "_law_many", "_law_share", "_law_found", "_law_k", "_law_make"] : List Str)[4]? = some ("_law_k" : Str) := rfl
  have v4 : visB (defScope (top 21)) "_law_k" = true := by decide +kernel
  have s4 : Sto X (defScope (top 21)) "_law_k" := sto_c h.fn (by decide +kernel)
  have n5 : (["_law_feed_here", "_law_many", "_law_share", "_law_found", "_law_k", "_law_make"] : List Str)[5]? = some ("_law_make" : Str) := rfl
  show Ex X W _ _ (m_qsome qfeed_here qmany qshare) _ _ _
  unfold m_qsome
  exact (asΓ [.io (.abs (feedA qfeed_here)), .dat true (PyData.int qmany), .dat true (PyData.int qshare), .un, .un, .un] (ex_ifXP (viewA := (fun w : ((List Int) × Fd) => (Fl.ex w : Fl Empty ((List Int) × Fd)))) (EvP.tstC (evp_eqI C (evp_var C rfl n2 v2) evp_int)) (asΓ [.io (.abs (feedA qfeed_here)), .dat true (PyData.int qmany), .dat true (PyData.int qshare), .un, .un, .un] (ex_retFP (evfp_lst eva_nil .nil rfl) [(0, (.abs (feedA qfeed_here)))] ⟨rfl, trivial⟩)) (asΓ [.io (.abs (feedA qfeed_here)), .dat true (PyData.int qmany), .dat true (PyData.int qshare), .un, .un, .un] (ex_req fun h636 => (ex_setG C 3 (set_comp (own := [("_law_make", 5)]) (items := fun _ : Unit => (rng 0 qmany)) (s0 := fun _ : Unit => qfeed_here) (Γs := (fun s641 : Fd => [.io (.abs (feedA s641)), .dat true (PyData.int qmany), .dat true (PyData.int qshare), .un, .un, .un])) (tt := (fun (s641 : Fd) (x637 : Int) => (R.bind (m_qtake s641 qshare) fun (x642 : (Int × Fd)) => R.bind (R.val (0 : Int)) fun (y643 : Int) => R.val ((decide (x642.1 = y643)), x642.2)))) (bt := (fun t645 : (Bool × Fd) => t645.1)) (Γt := (fun (t645 : (Bool × Fd)) (x637 : Int) => [.io (.abs (feedA t645.2)), .dat true (PyData.int qmany), .dat true (PyData.int qshare), .un, .un, .dat true (PyData.int x637)])) (st := (fun t645 : (Bool × Fd) => t645.2)) (te := (fun (t645 : (Bool × Fd)) (x637 : Int) => R.val (x637, t645.2))) (se := (fun z646 : (Int × Fd) => z646.2)) (out := (fun z646 : (Int × Fd) => z646.1)) (encO := PyData.int) C rfl n3 (by decide +kernel) rfl (by decide +kernel) (evip_range1 C hb_range (by decide +kernel) h636 (evp_var C rfl n1 v1)) (by decide +kernel) (Γe := (fun (z646 : (Int × Fd)) (x637 : Int) => [.io (.abs (feedA z646.2)), .dat true (PyData.int qmany), .dat true (PyData.int qshare), .un, .un, .dat true (PyData.int x637)])) (fun _ _ _ _ _ => (tg_name (fr := true) (enc := PyData.int) (Cf.blk C) 5 n5 (sto_l (by decide +kernel)))) (fun _ _ _ _ _ s641 x637 => (evts_one (Ev.tstC (ev_eqM (Cf.blk C) eqt_int (ev_callCP (as1 := []) (as2 := [.d true (PyData.int qshare)]) (Cf.blk C) c_m_qtake.blk (fun _ _ => rfl) (by decide +kernel) 0 true (evap_cons (evp_slot (Cf.blk C) (.inr rfl) n0 (by decide +kernel)) (evap_cons (evp_var (Cf.blk C) rfl n2 (by decide +kernel)) eva_nil)) (fun _ _ => .nil) (s641, qshare) rfl .nil (.d .nil) rfl (fun r : (Int × Fd) => (PyData.int r.1)) (fun r : (Int × Fd) => [.io (.abs (feedA r.2)), .dat true (PyData.int qmany), .dat true (PyData.int qshare), .un, .un, .dat true (PyData.int x637)]) (fun t z => nox_m_qtake _ _ z)) (fun x642 => (EvP.to evp_int (0 : Int) PyData.int)) (fun x642 y643 => ((decide (x642.1 = y643)), x642.2)) (fun z644 : (Bool × Fd) => z644.1) (Γk := fun z644 : (Bool × Fd) => [.io (.abs (feedA z644.2)), .dat true (PyData.int qmany), .dat true (PyData.int qshare), .un, .un, .dat true (PyData.int x637)]))))) (fun _ _ _ _ _ t645 x637 => (EvP.to (evp_var (Cf.blk C) rfl n5 (by decide +kernel)) (x637, t645.2) (fun z646 : (Int × Fd) => (PyData.int z646.1)))) (fun _ => rfl) (by decide) (fun _ _ => rfl) (fun _ _ => rfl) (fun _ => (un1 rfl))) fun qfound647 => (asΓ [.io (.abs (feedA qfound647.1)), .dat true (PyData.int qmany), .dat true (PyData.int qshare), .own (.lst (List.map PyData.int qfound647.2)), .un, .un] (ex_forS (Γs := (fun s684 : (Fd × (List Int)) => [.io (.abs (feedA s684.1)), .dat true (PyData.int qmany), .dat true (PyData.int qshare), .own (.lst (List.map PyData.int s684.2)), .un, .un])) (is := []) (s0 := fun r653 : (Int × Fd) => (r653.2, qfound647.2)) (items := fun r653 : (Int × Fd) => (rng 0 r653.1)) C (evi_range1 C hb_range (by decide +kernel) (eva_cons (as := fun z650 : (Int × Fd) => [.d true (PyData.int z650.1)]) (Γk := fun z650 : (Int × Fd) => [.io (.abs (feedA z650.2)), .dat true (PyData.int qmany), .dat true (PyData.int qshare), .own (.lst (List.map PyData.int qfound647.2)), .un, .un]) (fun x648 y649 => (x648.1, x648.2)) (ev_callCP (as1 := []) (as2 := [.d true (PyData.int (3 : Int))]) C c_m_qtake (fun _ _ => rfl) (by decide +kernel) 0 true (evap_cons (evp_slot C (.inr rfl) n0 v0) (evap_cons evp_int eva_nil)) (fun _ _ => .nil) (qfound647.1, (3 : Int)) rfl .nil (.d .nil) rfl (fun r : (Int × Fd) => (PyData.int r.1)) (fun r : (Int × Fd) => [.io (.abs (feedA r.2)), .dat true (PyData.int qmany), .dat true (PyData.int qshare), .own (.lst (List.map PyData.int qfound647.2)), .un, .un]) (fun t z => nox_m_qtake _ _ z)) (fun x648 => eva_nil)) (fun r651 => r651) (fun z652 : (Int × Fd) => [.io (.abs (feedA z652.2)), .dat true (PyData.int qmany), .dat true (PyData.int qshare), .own (.lst (List.map PyData.int qfound647.2)), .un, .un]) (fun z652 : (Int × Fd) => z652.1)) (tg_name (fr := true) (enc := PyData.int) C 4 n4 s4) (fun _ => rfl) (fun s684 x654 => (asΓ [.io (.abs (feedA s684.1)), .dat true (PyData.int qmany), .dat true (PyData.int qshare), .own (.lst (List.map PyData.int s684.2)), .dat true (PyData.int x654), .un] (ex_ifSP (Γj := (fun j699 : (Fd × (List Int)) => [.io (.abs (feedA j699.1)), .dat true (PyData.int qmany), .dat true (PyData.int qshare), .own (.lst (List.map PyData.int j699.2)), .dat true (PyData.int x654), .un])) (EvP.tstC (evp_neT C (eqt_list eqt_int) (x := s684.2) (y := ([] : (List Int))) (evp_slot C (.inl rfl) n3 v3) (EvF.ev (evfp_lst eva_nil .nil rfl)) (.o rfl) .d)) (asΓ [.io (.abs (feedA s684.1)), .dat true (PyData.int qmany), .dat true (PyData.int qshare), .own (.lst (List.map PyData.int s684.2)), .dat true (PyData.int x654), .un] (ex_expr (ev_insert (enc := PyData.int) (xs := fun r712 : (Int × Int × Fd) => s684.2) (n := fun r712 : (Int × Int × Fd) => r712.1) (y := fun r712 : (Int × Int × Fd) => r712.2.1) (Γk := fun z713 : (Fd × (List Int)) => [.io (.abs (feedA z713.1)), .dat true (PyData.int qmany), .dat true (PyData.int qshare), .own (.lst (List.map PyData.int z713.2)), .dat true (PyData.int x654), .un]) 3 false (evp_slot C (.inl rfl) n3 v3) rfl (eva_cons (as := fun z711 : (Int × Int × Fd) => [.d true (PyData.int z711.1), .d true (PyData.int z711.2.1)]) (Γk := fun z711 : (Int × Int × Fd) => [.io (.abs (feedA z711.2.2)), .dat true (PyData.int qmany), .dat true (PyData.int qshare), .own (.lst (List.map PyData.int s684.2)), .dat true (PyData.int x654), .un]) (fun x703 y710 => (x703.1, y710.1, y710.2)) (ev_callCP (as1 := []) (as2 := [.d true (PyData.int (((s684.2.length : Nat) : Int) + (1 : Int)))]) C c_m_qtake (fun _ _ => rfl) (by decide +kernel) 0 true (evap_cons (evp_slot C (.inr rfl) n0 v0) (evap_cons (evp_add (evp_lenL (enc := PyData.int) (xs := s684.2) C hb_len (by decide +kernel) (evp_slot C (.inl rfl) n3 v3) (.o rfl)) evp_int) eva_nil)) (fun _ _ => .nil) (s684.1, (((s684.2.length : Nat) : Int) + (1 : Int))) rfl .nil (.d .nil) rfl (fun r : (Int × Fd) => (PyData.int r.1)) (fun r : (Int × Fd) => [.io (.abs (feedA r.2)), .dat true (PyData.int qmany), .dat true (PyData.int qshare), .own (.lst (List.map PyData.int s684.2)), .dat true (PyData.int x654), .un]) (fun t z => nox_m_qtake _ _ z)) (fun x703 => (eva_cons (as := fun z709 : (Int × Fd) => [.d true (PyData.int z709.1)]) (Γk := fun z709 : (Int × Fd) => [.io (.abs (feedA z709.2)), .dat true (PyData.int qmany), .dat true (PyData.int qshare), .own (.lst (List.map PyData.int s684.2)), .dat true (PyData.int x654), .un]) (fun x707 y708 => (x707.1, x707.2)) (ev_ixR (enc := PyData.int) (xs := fun (_ : Unit) (y704 : (Int × Fd)) => s684.2) (n := fun (_ : Unit) (y704 : (Int × Fd)) => y704.1) (Γk := fun z706 : (Int × Fd) => [.io (.abs (feedA z706.2)), .dat true (PyData.int qmany), .dat true (PyData.int qshare), .own (.lst (List.map PyData.int s684.2)), .dat true (PyData.int x654), .un]) (evp_slot C (.inl rfl) n3 v3) (fun _ => (ev_callCP (as1 := []) (as2 := [.d true (PyData.int ((s684.2.length : Nat) : Int))]) C c_m_qtake (fun _ _ => rfl) (by decide +kernel) 0 true (evap_cons (evp_slot C (.inr rfl) n0 v0) (evap_cons (evp_lenL (enc := PyData.int) (xs := s684.2) C hb_len (by decide +kernel) (evp_slot C (.inl rfl) n3 v3) (.o rfl)) eva_nil)) (fun _ _ => .nil) (x703.2, ((s684.2.length : Nat) : Int)) rfl .nil (.d .nil) rfl (fun r : (Int × Fd) => (PyData.int r.1)) (fun r : (Int × Fd) => [.io (.abs (feedA r.2)), .dat true (PyData.int qmany), .dat true (PyData.int qshare), .own (.lst (List.map PyData.int s684.2)), .dat true (PyData.int x654), .un]) (fun t z => nox_m_qtake _ _ z))) (fun _ _ => (.o rfl)) (fun _ _ => .d) (fun _ y704 w705 => (w705, y704.2)) (fun z706 : (Int × Fd) => z706.1)) (fun x707 => eva_nil)))) (fun _ => rfl) (fun r712 => (r712.2.2, (insI s684.2 r712.1 r712.2.1)))) fun z713 => (ex_nil [] rfl rfl))) (ex_nil [] rfl rfl) (fun j699 => (ex_nil [4] rfl rfl))))) (fun s684 => (asΓ [.io (.abs (feedA s684.1)), .dat true (PyData.int qmany), .dat true (PyData.int qshare), .own (.lst (List.map PyData.int s684.2)), .un, .un] (ex_retO 3 (evp_slot C (.inl rfl) n3 v3) rfl [(0, (.abs (feedA s684.1)))] ⟨rfl, trivial⟩))))))))))

theorem ok_qsome {P : Program} {w : World} {K : PySem.W.Frag} {mg : Str → Option Value} {base : Heap} (E : Env K mg) : Gv P w K mg base 2 "_law_some" [] (spC K mg (fun t : (Fd × Int × Int) => []) (fun t : (Fd × Int × Int) => ((.abs (feedA t.1)) : Cl)) (fun t : (Fd × Int × Int) => [(PyData.int t.2.1), (PyData.int t.2.2)]) (fun t => m_qsome t.1 t.2.1 t.2.2) (fun w : ((List Int) × Fd) => Rs.f (List.map PyData.int w.1)) (fun w : ((List Int) × Fd) => ((.abs (feedA w.2)) : Cl))) := by
  obtain ⟨f, fd, F, hmg⟩ := E.d_qsome
  exact Gv.of F hmg (fo_qsome E F) (F.bindsN fun _ _ _ _ _ _ us hl => match us, hl with | [_, _, _], _ => rfl) .nil

def m_p_bits_of (p_net : (List (List Int))) : R (List Int) :=
  (R.bind (R.val ([] : (List Int))) fun (p_found786 : (List Int)) => (R.bind (R.fold (fun (s799 : (List Int)) (x787 : (Int × (List Int))) => (R.bind (R.req (cShl (1 : Int) x787.1)) fun _ => (R.bind (R.val ((1 : Int) * 2 ^ Int.toNat x787.1)) fun (p_bits801 : Int) => (R.bind (R.fold (fun (s806 : Int) (x802 : Int) => (R.bind (R.ofO (atI s799 x802)) fun (x808 : Int) => (R.bind (R.val (Builtin.bitOr s806 x808)) fun (p_bits810 : Int) => (R.val p_bits810)))) x787.2 p_bits801) fun (s806 : Int) => (R.bind (R.req (ltS s799)) fun _ => R.bind (R.val (s799 ++ [s806])) fun (p_found807 : (List Int)) => (R.val p_found807)))))) (enumI p_net) p_found786) fun (s799 : (List Int)) => (R.val s799)))
theorem sc_p_bits_of : FnScope ["net", "found", "make", "elders", "bits", "elder"] ["net"] (defScope (top 4)) := ⟨rfl, rfl, rfl, by decide +kernel, rfl, by decide +kernel, by decide +kernel⟩
theorem fo_p_bits_of {P : Program} {w : World} {K : PySem.W.Frag} {mg : Str → Option Value} {base : Heap} (E : Env K mg) {f : Addr} {fd : FuncData} (F : FunD K "bits_of" "bits_of" (defArgs (top 4)) (defBody (top 4)) (defScope (top 4)) [] [] f fd) : FnOk P w K mg base (L2.CX P w) 1 f fd ["net"] (spP K mg (fun t : (List (List Int)) => [(PyData.tuple (List.map (fun xs : (List Int) => PyData.tuple (List.map PyData.int xs)) t))]) (fun t => m_p_bits_of t) (fun w : (List Int) => Rs.f (List.map PyData.int w))) := by
  refine (fn_pure (N := ["net", "found", "make", "elders", "bits", "elder"]) (ps := ["net"]) F sc_p_bits_of (view := (fun w : (List Int) => (Fl.ex w : Fl Empty (List Int)))) (Γf := (fun z : Empty => z.elim)) (Xf := (fun w : (List Int) => Xo.rtF (List.map PyData.int w) [])) [true] (fun _ => rfl) (by decide) (fun t => ⟨fun _ => (flat_tup (fun _ => (flat_tup (fun _ => rfl) _)) _), trivial⟩) (fun w => rfl) ?_)
  intro X W h t
  generalize t = p_net
  have C := h.cf
  have hb_enumerate : X.mg "enumerate" = none := by rw [h.mg]; exact E.b_enumerate
  have n0 : (["net", "found", "make", "elders", "bits", "elder"] : List Str)[0]? = some ("net" : Str) := rfl
  have v0 : visB (defScope (top 4)) "net" = true := by decide +kernel
  have s0 : Sto X (defScope (top 4)) "net" := sto_c h.fn (by decide +kernel)
  have n1 : (["net", "found", "make", "elders", "bits", "elder"] : List Str)[1]? = some ("found" : Str) := rfl
  have v1 : visB (defScope (top 4)) "found" = true := by decide +kernel
  have s1 : Sto X (defScope (top 4)) "found" := sto_c h.fn (by decide +kernel)
  have n2 : (["net", "found", "make", "elders", "bits", "elder"] : List Str)[2]? = some ("make" : Str) := rfl
  have v2 : visB (defScope (top 4)) "make" = true := by decide +kernel
  have s2 : Sto X (defScope (top 4)) "make" := sto_c h.fn (by decide +kernel)
  have n3 : (["net", "found", "make", "elders", "bits", "elder"] : List Str)[3]? = some ("elders" : Str) := rfl
  have v3 : visB (defScope (top 4)) "elders" = true := by decide +kernel
  have s3 : Sto X (defScope (top 4)) "elders" := sto_c h.fn (by decide +kernel)
  have n4 : (["net", "found", "make", "elders", "bits", "elder"] : List Str)[4]? = some ("bits" : Str) := rfl
  have v4 : visB (defScope (top 4)) "bits" = true := by decide +kernel
  have s4 : Sto X (defScope (top 4)) "bits" := sto_c h.fn (by decide +kernel)
  have n5 : (["net", "found", "make", "elders", "bits", "elder"] : List Str)[5]? = some ("elder" : Str) := rfl
  have v5 : visB (defScope (top 4)) "elder" = true := by decide +kernel
  have s5 : Sto X (defScope (top 4)) "elder" := sto_c h.fn (by decide +kernel)
  show Ex X W _ _ (m_p_bits_of p_net) _ _ _
  unfold m_p_bits_of
  exact (asΓ [.dat true (PyData.tuple (List.map (fun xs : (List Int) => PyData.tuple (List.map PyData.int xs)) p_net)), .un, .un, .un, .un, .un] (ex_setF C 1 n1 s1 (EvFP.to (evfp_lst eva_nil .nil rfl) ([] : (List Int)) (fun xs : (List Int) => (List.map PyData.int xs))) fun p_found786 => (asΓ [.dat true (PyData.tuple (List.map (fun xs : (List Int) => PyData.tuple (List.map PyData.int xs)) p_net)), .own (.lst (List.map PyData.int p_found786)), .un, .un, .un, .un] (ex_forSP (Γs := (fun s799 : (List Int) => [.dat true (PyData.tuple (List.map (fun xs : (List Int) => PyData.tuple (List.map PyData.int xs)) p_net)), .own (.lst (List.map PyData.int s799)), .un, .un, .un, .un])) C [] (evip_enumT (enc := (fun xs : (List Int) => PyData.tuple (List.map PyData.int xs))) (xs := p_net) C hb_enumerate (by decide +kernel) (evp_var C rfl n0 v0)) (tg_tup2 C (tg_name (fr := true) (enc := (fun x : (Int × (List Int)) => (PyData.int x.1))) C 2 n2 s2) (tg_name (fr := true) (enc := (fun x : (Int × (List Int)) => (PyData.tuple (List.map PyData.int x.2)))) C 3 n3 s3)) rfl (fun s799 x787 => (asΓ [.dat true (PyData.tuple (List.map (fun xs : (List Int) => PyData.tuple (List.map PyData.int xs)) p_net)), .own (.lst (List.map PyData.int s799)), .dat true (PyData.int x787.1), .dat true (PyData.tuple (List.map PyData.int x787.2)), .un, .un] (ex_req fun h800 => (ex_set C 4 n4 s4 (EvP.to (evp_shl h800 evp_int (evp_var C rfl n2 v2)) ((1 : Int) * 2 ^ Int.toNat x787.1) PyData.int) fun p_bits801 => (asΓ [.dat true (PyData.tuple (List.map (fun xs : (List Int) => PyData.tuple (List.map PyData.int xs)) p_net)), .own (.lst (List.map PyData.int s799)), .dat true (PyData.int x787.1), .dat true (PyData.tuple (List.map PyData.int x787.2)), .dat true (PyData.int p_bits801), .un] (ex_forSP (Γs := (fun s806 : Int => [.dat true (PyData.tuple (List.map (fun xs : (List Int) => PyData.tuple (List.map PyData.int xs)) p_net)), .own (.lst (List.map PyData.int s799)), .dat true (PyData.int x787.1), .dat true (PyData.tuple (List.map PyData.int x787.2)), .dat true (PyData.int s806), .un])) C [] (evip_tup (evp_var C rfl n3 v3)) (tg_name (fr := true) (enc := PyData.int) C 5 n5 s5) rfl (fun s806 x802 => (asΓ [.dat true (PyData.tuple (List.map (fun xs : (List Int) => PyData.tuple (List.map PyData.int xs)) p_net)), .own (.lst (List.map PyData.int s799)), .dat true (PyData.int x787.1), .dat true (PyData.tuple (List.map PyData.int x787.2)), .dat true (PyData.int s806), .dat true (PyData.int x802)] (ex_pre fun x808 h809 => (ex_set C 4 n4 s4 (EvP.to (evp_bor (evp_var C rfl n4 v4) (evp_ixLO (enc := PyData.int) (xs := s799) (evp_slot C (.inl rfl) n1 v1) (.inl rfl) (evp_var C rfl n5 v5) h809)) (Builtin.bitOr s806 x808) PyData.int) fun p_bits810 => (ex_nil [5] rfl rfl))))) (fun s806 => (asΓ [.dat true (PyData.tuple (List.map (fun xs : (List Int) => PyData.tuple (List.map PyData.int xs)) p_net)), .own (.lst (List.map PyData.int s799)), .dat true (PyData.int x787.1), .dat true (PyData.tuple (List.map PyData.int x787.2)), .dat true (PyData.int s806), .un] (ex_appP (enc := PyData.int) (xs := s799) (y := s806) 1 false (evp_slot C (.inl rfl) n1 v1) rfl (evp_var C rfl n4 v4) fun p_found807 => (ex_nil [2, 3, 4] rfl rfl)))))))))) (fun s799 => (asΓ [.dat true (PyData.tuple (List.map (fun xs : (List Int) => PyData.tuple (List.map PyData.int xs)) p_net)), .own (.lst (List.map PyData.int s799)), .un, .un, .un, .un] (ex_retO 1 (evp_slot C (.inl rfl) n1 v1) rfl [] trivial)))))))

theorem ok_p_bits_of {P : Program} {w : World} {K : PySem.W.Frag} {mg : Str → Option Value} {base : Heap} (E : Env K mg) : Gv P w K mg base 1 "bits_of" [] (spP K mg (fun t : (List (List Int)) => [(PyData.tuple (List.map (fun xs : (List Int) => PyData.tuple (List.map PyData.int xs)) t))]) (fun t => m_p_bits_of t) (fun w : (List Int) => Rs.f (List.map PyData.int w))) := by
  obtain ⟨f, fd, F, hmg⟩ := E.d_p_bits_of
  exact Gv.of F hmg (fo_p_bits_of E F) (F.bindsN fun _ _ _ _ _ _ us hl => match us, hl with | [_], _ => rfl) .nil

def m_p_some_of (p_makes : (List Int)) : R (List Int) :=
  (if false = true then R.bad else (R.val p_makes))
theorem sc_p_some_of : FnScope ["makes"] ["makes"] (defScope (top 5)) := ⟨rfl, rfl, rfl, by decide +kernel, rfl, by decide +kernel, by decide +kernel⟩
theorem fo_p_some_of {P : Program} {w : World} {K : PySem.W.Frag} {mg : Str → Option Value} {base : Heap} (E : Env K mg) {f : Addr} {fd : FuncData} (F : FunD K "some_of" "some_of" (defArgs (top 5)) (defBody (top 5)) (defScope (top 5)) [] [] f fd) : FnOk P w K mg base (L2.CX P w) 1 f fd ["makes"] (spP K mg (fun t : (List Int) => [(PyData.list (List.map PyData.int t))]) (fun t => m_p_some_of t) (fun w : (List Int) => Rs.f (List.map PyData.int w))) := by
  refine (fn_pure (N := ["makes"]) (ps := ["makes"]) F sc_p_some_of (view := (fun w : (List Int) => (Fl.ex w : Fl Empty (List Int)))) (Γf := (fun z : Empty => z.elim)) (Xf := (fun w : (List Int) => Xo.rtF (List.map PyData.int w) [])) [false] (fun _ => rfl) (by decide) (fun t => ⟨(fun q => nomatch q), trivial⟩) (fun w => rfl) ?_)
  intro X W h t
  generalize t = p_makes
  have C := h.cf
  have hb_list : X.mg "list" = none := by rw [h.mg]; exact E.b_list
  have n0 : (["makes"] : List Str)[0]? = some ("makes" : Str) := rfl
  have v0 : visB (defScope (top 5)) "makes" = true := by decide +kernel
  have s0 : Sto X (defScope (top 5)) "makes" := sto_c h.fn (by decide +kernel)
  show Ex X W _ _ (m_p_some_of p_makes) _ _ _
  unfold m_p_some_of
  exact (asΓ [.dat false (PyData.list (List.map PyData.int p_makes))] (ex_ifXP (viewA := (fun w : (List Int) => (Fl.ex w : Fl Empty (List Int)))) (EvP.tstC (evp_isN (evp_var C rfl n0 v0) evp_none)) ex_bad (asΓ [.dat false (PyData.list (List.map PyData.int p_makes))] (ex_retFP (evf_listA C hb_list (by decide +kernel) (evp_var C rfl n0 v0) (fun _ => flatA_map (fun _ => rfl) _)) [] trivial))))

theorem ok_p_some_of {P : Program} {w : World} {K : PySem.W.Frag} {mg : Str → Option Value} {base : Heap} (E : Env K mg) : Gv P w K mg base 1 "some_of" [] (spP K mg (fun t : (List Int) => [(PyData.list (List.map PyData.int t))]) (fun t => m_p_some_of t) (fun w : (List Int) => Rs.f (List.map PyData.int w))) := by
  obtain ⟨f, fd, F, hmg⟩ := E.d_p_some_of
  exact Gv.of F hmg (fo_p_some_of E F) (F.bindsN fun _ _ _ _ _ _ us hl => match us, hl with | [_], _ => rfl) .nil

def m_p_is_in (p_mask : Int) (p_make : Int) : R Bool :=
  (R.bind (R.req (cShr p_mask p_make)) fun _ => (R.val (decide ((Builtin.bitAnd (p_mask / 2 ^ Int.toNat p_make) (1 : Int)) = (1 : Int)))))
theorem sc_p_is_in : FnScope ["mask", "make"] ["mask", "make"] (defScope (top 6)) := ⟨rfl, rfl, rfl, by decide +kernel, rfl, by decide +kernel, by decide +kernel⟩
theorem fo_p_is_in {P : Program} {w : World} {K : PySem.W.Frag} {mg : Str → Option Value} {base : Heap} (E : Env K mg) {f : Addr} {fd : FuncData} (F : FunD K "is_in" "is_in" (defArgs (top 6)) (defBody (top 6)) (defScope (top 6)) [] [] f fd) : FnOk P w K mg base (L2.CX P w) 1 f fd ["mask", "make"] (spP K mg (fun t : (Int × Int) => [(PyData.int t.1), (PyData.int t.2)]) (fun t => m_p_is_in t.1 t.2) (fun w : Bool => Rs.d (PyData.bool w))) := by
  refine (fn_pure (N := ["mask", "make"]) (ps := ["mask", "make"]) F sc_p_is_in (view := (fun w : Bool => (Fl.ex w : Fl Empty Bool))) (Γf := (fun z : Empty => z.elim)) (Xf := (fun w : Bool => Xo.rt (PyData.bool w) [])) [true, true] (fun _ => rfl) (by decide) (fun t => ⟨fun _ => rfl, ⟨fun _ => rfl, trivial⟩⟩) (fun w => rfl) ?_)
  intro X W h t
  obtain ⟨p_mask, p_make⟩ := t
  have C := h.cf
  have n0 : (["mask", "make"] : List Str)[0]? = some ("mask" : Str) := rfl
  have v0 : visB (defScope (top 6)) "mask" = true := by decide +kernel
  have s0 : Sto X (defScope (top 6)) "mask" := sto_c h.fn (by decide +kernel)
  have n1 : (["mask", "make"] : List Str)[1]? = some ("make" : Str) := rfl
  have v1 : visB (defScope (top 6)) "make" = true := by decide +kernel
  have s1 : Sto X (defScope (top 6)) "make" := sto_c h.fn (by decide +kernel)
  show Ex X W _ _ (m_p_is_in p_mask p_make) _ _ _
  unfold m_p_is_in
  exact (asΓ [.dat true (PyData.int p_mask), .dat true (PyData.int p_make)] (ex_req fun h832 => (ex_retP (evp_eqI C (evp_band (evp_shr h832 (evp_var C rfl n0 v0) (evp_var C rfl n1 v1)) evp_int) evp_int) [] trivial)))

theorem ok_p_is_in {P : Program} {w : World} {K : PySem.W.Frag} {mg : Str → Option Value} {base : Heap} (E : Env K mg) : Gv P w K mg base 1 "is_in" [] (spP K mg (fun t : (Int × Int) => [(PyData.int t.1), (PyData.int t.2)]) (fun t => m_p_is_in t.1 t.2) (fun w : Bool => Rs.d (PyData.bool w))) := by
  obtain ⟨f, fd, F, hmg⟩ := E.d_p_is_in
  exact Gv.of F hmg (fo_p_is_in E F) (F.bindsN fun _ _ _ _ _ _ us hl => match us, hl with | [_, _], _ => rfl) .nil

def m_p_lesser_side (p_bits : (List Int)) (p_makes : (List Int)) (p_make : Int) : R Int :=
  (R.bind (R.bind (R.req (szB p_makes)) fun _ => R.comp (fun x843 : Int => (R.bind (R.ofO (atI p_bits p_make)) fun (x844 : Int) => (m_p_is_in x844 x843))) (fun x843 : Int => (R.val x843)) p_makes) fun (p_bad847 : (List Int)) => (R.val (min2 ((p_bad847.length : Nat) : Int) (((p_makes.length : Nat) : Int) - ((p_bad847.length : Nat) : Int)))))
theorem sc_p_lesser_side : FnScope ["bits", "makes", "make", "bad", "one"] ["bits", "makes", "make"] (defScope (top 8)) := ⟨rfl, rfl, rfl, by decide +kernel, rfl, by decide +kernel, by decide +kernel⟩
theorem fo_p_lesser_side {P : Program} {w : World} {K : PySem.W.Frag} {mg : Str → Option Value} {base : Heap} (E : Env K mg) {f : Addr} {fd : FuncData} (F : FunD K "lesser_side" "lesser_side" (defArgs (top 8)) (defBody (top 8)) (defScope (top 8)) [] [] f fd) : FnOk P w K mg base (L2.CX P w) 2 f fd ["bits", "makes", "make"] (spP K mg (fun t : ((List Int) × (List Int) × Int) => [(PyData.list (List.map PyData.int t.1)), (PyData.list (List.map PyData.int t.2.1)), (PyData.int t.2.2)]) (fun t => m_p_lesser_side t.1 t.2.1 t.2.2) (fun w : Int => Rs.d (PyData.int w))) := by
  refine (fn_pure (N := ["bits", "makes", "make", "bad", "one"]) (ps := ["bits", "makes", "make"]) F sc_p_lesser_side (view := (fun w : Int => (Fl.ex w : Fl Empty Int))) (Γf := (fun z : Empty => z.elim)) (Xf := (fun w : Int => Xo.rt (PyData.int w) [])) [false, false, true] (fun _ => rfl) (by decide) (fun t => ⟨(fun q => nomatch q), ⟨(fun q => nomatch q), ⟨fun _ => rfl, trivial⟩⟩⟩) (fun w => rfl) ?_)
  intro X W h t
  obtain ⟨p_bits, p_makes, p_make⟩ := t
  have C := h.cf
  have hb_len : X.mg "len" = none := by rw [h.mg]; exact E.b_len
  have hb_min : X.mg "min" = none := by rw [h.mg]; exact E.b_min
  have c_m_p_is_in := (ok_p_is_in (P := P) (w := w) (base := base) E).cP h (by decide)
  have n0 : (["bits", "makes", "make", "bad", "one"] : List Str)[0]? = some ("bits" : Str) := rfl
  have v0 : visB (defScope (top 8)) "bits" = true := by decide +kernel
  have s0 : Sto X (defScope (top 8)) "bits" := sto_c h.fn (by decide +kernel)
  have n1 : (["bits", "makes", "make", "bad", "one"] : List Str)[1]? = some ("makes" : Str) := rfl
  have v1 : visB (defScope (top 8)) "makes" = true := by decide +kernel
  have s1 : Sto X (defScope (top 8)) "makes" := sto_c h.fn (by decide +kernel)
  have n2 : (["bits", "makes", "make", "bad", "one"] : List Str)[2]? = some ("make" : Str) := rfl
  have v2 : visB (defScope (top 8)) "make" = true := by decide +kernel
  have s2 : Sto X (defScope (top 8)) "make" := sto_c h.fn (by decide +kernel)
  have n3 : (["bits", "makes", "make", "bad", "one"] : List Str)[3]? = some ("bad" : Str) := rfl
  have v3 : visB (defScope (top 8)) "bad" = true := by decide +kernel
  have s3 : Sto X (defScope (top 8)) "bad" := sto_c h.fn (by decide +kernel)
  have n4 : (["bits", "makes", "make", "bad", "one"] : List Str)[4]? = some ("one" : Str) := rfl
  show Ex X W _ _ (m_p_lesser_side p_bits p_makes p_make) _ _ _
  unfold m_p_lesser_side
  exact (asΓ [.dat false (PyData.list (List.map PyData.int p_bits)), .dat false (PyData.list (List.map PyData.int p_makes)), .dat true (PyData.int p_make), .un, .un] (ex_set (enc := fun p_bad847 : (List Int) => (PyData.int ((p_bad847.length : Nat) : Int))) (Γ1 := fun p_bad847 : (List Int) => [.dat false (PyData.list (List.map PyData.int p_bits)), .dat false (PyData.list (List.map PyData.int p_makes)), .dat true (PyData.int p_make), .un, .un]) C 3 n3 s3 (ev_lenM (n := fun r846 : (List Int) => ((r846.length : Nat) : Int)) C hb_len (by decide +kernel) (EvF.ev (evf_compM (own := [("one", 4)]) (items := p_makes) (encO := PyData.int) (Γ0 := [.dat false (PyData.list (List.map PyData.int p_bits)), .dat false (PyData.list (List.map PyData.int p_makes)), .dat true (PyData.int p_make), .un, .un]) (t := fun x843 : Int => (R.bind (R.ofO (atI p_bits p_make)) fun (x844 : Int) => (m_p_is_in x844 x843))) (el := fun x843 : Int => (R.val x843)) C ⟨(evip_list (evp_var C rfl n1 v1)), (by decide +kernel), (fun _ _ _ _ _ => (tg_nameF (fr := false) (enc := PyData.int) (Cf.blk C) 4 n4 (sto_l (by decide +kernel)) (fun _ => rfl))), (fun _ _ _ _ _ x843 => (evts_one (evt_pre fun x844 h845 => (Ev.tst (ev_callP (Cf.blk C) c_m_p_is_in.blk (by decide +kernel) (evap_cons (EvP.free (fr' := true) (evp_ixL (enc := PyData.int) (xs := p_bits) (evp_var (Cf.blk C) rfl n0 (by decide +kernel)) (evp_var (Cf.blk C) rfl n2 (by decide +kernel)) h845) rfl) (evap_cons (evp_var (Cf.blk C) rfl n4 (by decide +kernel)) eva_nil)) (fun _ _ => .nil) (x844, x843) (.d (.d .nil)) rfl (fun r : Bool => (PyData.bool r))))))), (fun _ _ _ _ _ x843 => (EvP.to (evp_var (Cf.blk C) rfl n4 (by decide +kernel)) x843 PyData.int)), rfl, (by decide), (fun _ => rfl), (un1 rfl), (fun _ => rfl)⟩)) (fun _ => by simp)) fun p_bad847 => (asΓ [.dat false (PyData.list (List.map PyData.int p_bits)), .dat false (PyData.list (List.map PyData.int p_makes)), .dat true (PyData.int p_make), .dat true (PyData.int ((p_bad847.length : Nat) : Int)), .un] (ex_retP (ev_min2 (γ := Unit) (fa := fun _ => ((p_bad847.length : Nat) : Int)) (fb := fun _ => (((p_makes.length : Nat) : Int) - ((p_bad847.length : Nat) : Int))) C hb_min (by decide +kernel) (evap_cons (evp_var C rfl n3 v3) (evap_cons (evp_sub (evp_lenL (enc := PyData.int) (xs := p_makes) C hb_len (by decide +kernel) (evp_var C rfl n1 v1) .d) (evp_var C rfl n3 v3)) eva_nil)) (fun _ => ()) (fun _ => min2 ((p_bad847.length : Nat) : Int) (((p_makes.length : Nat) : Int) - ((p_bad847.length : Nat) : Int))) (fun _ => [.dat false (PyData.list (List.map PyData.int p_bits)), .dat false (PyData.list (List.map PyData.int p_makes)), .dat true (PyData.int p_make), .dat true (PyData.int ((p_bad847.length : Nat) : Int)), .un])) [] trivial))))

theorem ok_p_lesser_side {P : Program} {w : World} {K : PySem.W.Frag} {mg : Str → Option Value} {base : Heap} (E : Env K mg) : Gv P w K mg base 2 "lesser_side" [] (spP K mg (fun t : ((List Int) × (List Int) × Int) => [(PyData.list (List.map PyData.int t.1)), (PyData.list (List.map PyData.int t.2.1)), (PyData.int t.2.2)]) (fun t => m_p_lesser_side t.1 t.2.1 t.2.2) (fun w : Int => Rs.d (PyData.int w))) := by
  obtain ⟨f, fd, F, hmg⟩ := E.d_p_lesser_side
  exact Gv.of F hmg (fo_p_lesser_side E F) (F.bindsN fun _ _ _ _ _ _ us hl => match us, hl with | [_, _, _], _ => rfl) .nil

def m_p_evenest (p_bits : (List Int)) (p_makes : (List Int)) (p_barred : (List Int)) : R (Option Int) :=
  (R.bind (R.val (none : (Option Int))) fun (p_best885 : (Option Int)) => (R.bind (R.val (0 : Int)) fun (p_most886 : Int) => (R.bind (R.req (cRng 0 ((p_bits.length : Nat) : Int))) fun _ => (R.bind (R.fold (fun (s904 : ((Option Int) × Int)) (x888 : Int) => (R.bind (R.ofO (ninB (PyData.int x888) (PyData.list (List.map PyData.int p_barred)))) fun (z905 : Bool) => (R.bind (if z905 = true then (R.bind (m_p_lesser_side p_bits p_makes x888) fun (p_lesser914 : Int) => (R.bind (if (decide (s904.2 < p_lesser914)) = true then (R.bind (R.val (some x888)) fun (p_best918 : (Option Int)) => (R.bind (R.val p_lesser914) fun (p_most919 : Int) => (R.val (p_best918, p_most919)))) else (R.val (s904.1, s904.2))) fun (j917 : ((Option Int) × Int)) => (R.val (j917.1, j917.2)))) else (R.val (s904.1, s904.2))) fun (j913 : ((Option Int) × Int)) => (R.val (j913.1, j913.2))))) (rng 0 ((p_bits.length : Nat) : Int)) (p_best885, p_most886)) fun (s904 : ((Option Int) × Int)) => (R.val s904.1)))))
theorem sc_p_evenest : FnScope ["bits", "makes", "barred", "best", "most", "make", "lesser"] ["bits", "makes", "barred"] (defScope (top 9)) := ⟨rfl, rfl, rfl, by decide +kernel, rfl, by decide +kernel, by decide +kernel⟩
theorem fo_p_evenest {P : Program} {w : World} {K : PySem.W.Frag} {mg : Str → Option Value} {base : Heap} (E : Env K mg) {f : Addr} {fd : FuncData} (F : FunD K "evenest" "evenest" (defArgs (top 9)) (defBody (top 9)) (defScope (top 9)) [] [] f fd) : FnOk P w K mg base (L2.CX P w) 3 f fd ["bits", "makes", "barred"] (spP K mg (fun t : ((List Int) × (List Int) × (List Int)) => [(PyData.list (List.map PyData.int t.1)), (PyData.list (List.map PyData.int t.2.1)), (PyData.list (List.map PyData.int t.2.2))]) (fun t => m_p_evenest t.1 t.2.1 t.2.2) (fun w : (Option Int) => Rs.d (optD PyData.int w))) := by
  refine (fn_pure (N := ["bits", "makes", "barred", "best", "most", "make", "lesser"]) (ps := ["bits", "makes", "barred"]) F sc_p_evenest (view := (fun w : (Option Int) => (Fl.ex w : Fl Empty (Option Int)))) (Γf := (fun z : Empty => z.elim)) (Xf := (fun w : (Option Int) => Xo.rt (optD PyData.int w) [])) [false, false, false] (fun _ => rfl) (by decide) (fun t => ⟨(fun q => nomatch q), ⟨(fun q => nomatch q), ⟨(fun q => nomatch q), trivial⟩⟩⟩) (fun w => rfl) ?_)
  intro X W h t
  obtain ⟨p_bits, p_makes, p_barred⟩ := t
  have C := h.cf
  have hb_range : X.mg "range" = none := by rw [h.mg]; exact E.b_range
  have hb_len : X.mg "len" = none := by rw [h.mg]; exact E.b_len
  have c_m_p_lesser_side := (ok_p_lesser_side (P := P) (w := w) (base := base) E).cP h (by decide)
  have n0 : (["bits", "makes", "barred", "best", "most", "make", "lesser"] : List Str)[0]? = some ("bits" : Str) := rfl
  have v0 : visB (defScope (top 9)) "bits" = true := by decide +kernel
  have s0 : Sto X (defScope (top 9)) "bits" := sto_c h.fn (by decide +kernel)
  have n1 : (["bits", "makes", "barred", "best", "most", "make", "lesser"] : List Str)[1]? = some ("makes" : Str) := rfl
  have v1 : visB (defScope (top 9)) "makes" = true := by decide +kernel
  have s1 : Sto X (defScope (top 9)) "makes" := sto_c h.fn (by decide +kernel)
  have n2 : (["bits", "makes", "barred", "best", "most", "make", "lesser"] : List Str)[2]? = some ("barred" : Str) := rfl
  have v2 : visB (defScope (top 9)) "barred" = true := by decide +kernel
  have s2 : Sto X (defScope (top 9)) "barred" := sto_c h.fn (by decide +kernel)
  have n3 : (["bits", "makes", "barred", "best", "most", "make", "lesser"] : List Str)[3]? = some ("best" : Str) := rfl
  have v3 : visB (defScope (top 9)) "best" = true := by decide +kernel
  have s3 : Sto X (defScope (top 9)) "best" := sto_c h.fn (by decide +kernel)
  have n4 : (["bits", "makes", "barred", "best", "most", "make", "lesser"] : List Str)[4]? = some ("most" : Str) := rfl
  have v4 : visB (defScope (top 9)) "most" = true := by decide +kernel
  have s4 : Sto X (defScope (top 9)) "most" := sto_c h.fn (by decide +kernel)
  have n5 : (["bits", "makes", "barred", "best", "most", "make", "lesser"] : List Str)[5]? = some ("make" : Str) := rfl
  have v5 : visB (defScope (top 9)) "make" = true := by decide +kernel
  have s5 : Sto X (defScope (top 9)) "make" := sto_c h.fn (by decide +kernel)
  have n6 : (["bits", "makes", "barred", "best", "most", "make", "lesser"] : List Str)[6]? = some ("lesser" : Str) := rfl
  have v6 : visB (defScope (top 9)) "lesser" = true := by decide +kernel
  have s6 : Sto X (defScope (top 9)) "lesser" := sto_c h.fn (by decide +kernel)
  show Ex X W _ _ (m_p_evenest p_bits p_makes p_barred) _ _ _
  unfold m_p_evenest
  exact (asΓ [.dat false (PyData.list (List.map PyData.int p_bits)), .dat false (PyData.list (List.map PyData.int p_makes)), .dat false (PyData.list (List.map PyData.int p_barred)), .un, .un, .un, .un] (ex_set C 3 n3 s3 (EvP.to evp_none (none : (Option Int)) (optD PyData.int)) fun p_best885 => (asΓ [.dat false (PyData.list (List.map PyData.int p_bits)), .dat false (PyData.list (List.map PyData.int p_makes)), .dat false (PyData.list (List.map PyData.int p_barred)), .dat true (optD PyData.int p_best885), .un, .un, .un] (ex_set C 4 n4 s4 (EvP.to evp_int (0 : Int) PyData.int) fun p_most886 => (asΓ [.dat false (PyData.list (List.map PyData.int p_bits)), .dat false (PyData.list (List.map PyData.int p_makes)), .dat false (PyData.list (List.map PyData.int p_barred)), .dat true (optD PyData.int p_best885), .dat true (PyData.int p_most886), .un, .un] (ex_req fun h887 => (ex_forSP (Γs := (fun s904 : ((Option Int) × Int) => [.dat false (PyData.list (List.map PyData.int p_bits)), .dat false (PyData.list (List.map PyData.int p_makes)), .dat false (PyData.list (List.map PyData.int p_barred)), .dat true (optD PyData.int s904.1), .dat true (PyData.int s904.2), .un, .un])) C [] (evip_range1 C hb_range (by decide +kernel) h887 (evp_lenL (enc := PyData.int) (xs := p_bits) C hb_len (by decide +kernel) (evp_var C rfl n0 v0) .d)) (tg_name (fr := true) (enc := PyData.int) C 5 n5 s5) rfl (fun s904 x888 => (asΓ [.dat false (PyData.list (List.map PyData.int p_bits)), .dat false (PyData.list (List.map PyData.int p_makes)), .dat false (PyData.list (List.map PyData.int p_barred)), .dat true (optD PyData.int s904.1), .dat true (PyData.int s904.2), .dat true (PyData.int x888), .un] (ex_pre fun z905 h906 => (ex_ifSP (Γj := (fun j913 : ((Option Int) × Int) => [.dat false (PyData.list (List.map PyData.int p_bits)), .dat false (PyData.list (List.map PyData.int p_makes)), .dat false (PyData.list (List.map PyData.int p_barred)), .dat true (optD PyData.int j913.1), .dat true (PyData.int j913.2), .dat true (PyData.int x888), .un])) (EvP.tstC (Sem2.pu (s2_notin (u65 C)) h906 (evp_var C rfl n5 v5) (evp_var C rfl n2 v2) .d .d)) (asΓ [.dat false (PyData.list (List.map PyData.int p_bits)), .dat false (PyData.list (List.map PyData.int p_makes)), .dat false (PyData.list (List.map PyData.int p_barred)), .dat true (optD PyData.int s904.1), .dat true (PyData.int s904.2), .dat true (PyData.int x888), .un] (ex_set (enc := fun p_lesser914 : Int => (PyData.int p_lesser914)) (Γ1 := fun p_lesser914 : Int => [.dat false (PyData.list (List.map PyData.int p_bits)), .dat false (PyData.list (List.map PyData.int p_makes)), .dat false (PyData.list (List.map PyData.int p_barred)), .dat true (optD PyData.int s904.1), .dat true (PyData.int s904.2), .dat true (PyData.int x888), .un]) C 6 n6 s6 (ev_callP C c_m_p_lesser_side (by decide +kernel) (evap_cons (evp_var C rfl n0 v0) (evap_cons (evp_var C rfl n1 v1) (evap_cons (evp_var C rfl n5 v5) eva_nil))) (fun _ _ => .nil) (p_bits, p_makes, x888) (.d (.d (.d .nil))) rfl (fun r : Int => (PyData.int r))) fun p_lesser914 => (asΓ [.dat false (PyData.list (List.map PyData.int p_bits)), .dat false (PyData.list (List.map PyData.int p_makes)), .dat false (PyData.list (List.map PyData.int p_barred)), .dat true (optD PyData.int s904.1), .dat true (PyData.int s904.2), .dat true (PyData.int x888), .dat true (PyData.int p_lesser914)] (ex_ifSP (Γj := (fun j917 : ((Option Int) × Int) => [.dat false (PyData.list (List.map PyData.int p_bits)), .dat false (PyData.list (List.map PyData.int p_makes)), .dat false (PyData.list (List.map PyData.int p_barred)), .dat true (optD PyData.int j917.1), .dat true (PyData.int j917.2), .dat true (PyData.int x888), .dat true (PyData.int p_lesser914)])) (EvP.tstC (evp_gt (evp_var C rfl n6 v6) (evp_var C rfl n4 v4))) (asΓ [.dat false (PyData.list (List.map PyData.int p_bits)), .dat false (PyData.list (List.map PyData.int p_makes)), .dat false (PyData.list (List.map PyData.int p_barred)), .dat true (optD PyData.int s904.1), .dat true (PyData.int s904.2), .dat true (PyData.int x888), .dat true (PyData.int p_lesser914)] (ex_set C 3 n3 s3 (EvP.to (evp_var C rfl n5 v5) (some x888) (optD PyData.int)) fun p_best918 => (asΓ [.dat false (PyData.list (List.map PyData.int p_bits)), .dat false (PyData.list (List.map PyData.int p_makes)), .dat false (PyData.list (List.map PyData.int p_barred)), .dat true (optD PyData.int p_best918), .dat true (PyData.int s904.2), .dat true (PyData.int x888), .dat true (PyData.int p_lesser914)] (ex_set C 4 n4 s4 (EvP.to (evp_var C rfl n6 v6) p_lesser914 PyData.int) fun p_most919 => (ex_nil [] rfl rfl))))) (ex_nil [] rfl rfl) (fun j917 => (ex_nil [6] rfl rfl)))))) (ex_nil [] rfl rfl) (fun j913 => (ex_nil [5] rfl rfl)))))) (fun s904 => (asΓ [.dat false (PyData.list (List.map PyData.int p_bits)), .dat false (PyData.list (List.map PyData.int p_makes)), .dat false (PyData.list (List.map PyData.int p_barred)), .dat true (optD PyData.int s904.1), .dat true (PyData.int s904.2), .un, .un] (ex_retP (evp_var C rfl n3 v3) [] trivial))))))))))

theorem ok_p_evenest {P : Program} {w : World} {K : PySem.W.Frag} {mg : Str → Option Value} {base : Heap} (E : Env K mg) : Gv P w K mg base 3 "evenest" [] (spP K mg (fun t : ((List Int) × (List Int) × (List Int)) => [(PyData.list (List.map PyData.int t.1)), (PyData.list (List.map PyData.int t.2.1)), (PyData.list (List.map PyData.int t.2.2))]) (fun t => m_p_evenest t.1 t.2.1 t.2.2) (fun w : (Option Int) => Rs.d (optD PyData.int w))) := by
  obtain ⟨f, fd, F, hmg⟩ := E.d_p_evenest
  exact Gv.of F hmg (fo_p_evenest E F) (F.bindsN fun _ _ _ _ _ _ us hl => match us, hl with | [_, _, _], _ => rfl) .nil

def m_p_halving_make (p_net : (List (List Int))) (p_makes : (List Int)) (p_barred : (List Int)) : R (Option Int) :=
  (R.bind (R.bind (R.bind (m_p_bits_of p_net) fun (x923 : (List Int)) => R.bind (R.bind (R.bind (R.val p_makes) fun (r924 : (List Int)) => R.bind (R.req (lt64 r924)) fun _ => R.val r924) fun (x925 : (List Int)) => R.bind (R.bind (m_p_some_of p_barred) fun (x926 : (List Int)) => R.bind (R.val ()) fun (y927 : Unit) => R.val x926) fun (y929 : (List Int)) => R.val ((setI x925), y929)) fun (y931 : ((List Int) × (List Int))) => R.val (x923, y931.1, y931.2)) fun (a933 : ((List Int) × (List Int) × (List Int))) => R.bind (m_p_evenest a933.1 a933.2.1 a933.2.2) fun (r934 : (Option Int)) => R.val r934) fun (r936 : (Option Int)) => (R.val r936))
theorem sc_p_halving_make : FnScope ["net", "makes", "barred"] ["net", "makes", "barred"] (defScope (top 10)) := ⟨rfl, rfl, rfl, by decide +kernel, rfl, by decide +kernel, by decide +kernel⟩
theorem fo_p_halving_make {P : Program} {w : World} {K : PySem.W.Frag} {mg : Str → Option Value} {base : Heap} (E : Env K mg) {f : Addr} {fd : FuncData} (F : FunD K "halving_make" "halving_make" (defArgs (top 10)) (defBody (top 10)) (defScope (top 10)) [V.non] [] f fd) : FnOk P w K mg base (L2.CX P w) 4 f fd ["net", "makes", "barred"] (spP K mg (fun t : ((List (List Int)) × (List Int) × (List Int)) => [(PyData.tuple (List.map (fun xs : (List Int) => PyData.tuple (List.map PyData.int xs)) t.1)), (PyData.list (List.map PyData.int t.2.1)), (PyData.list (List.map PyData.int t.2.2))]) (fun t => m_p_halving_make t.1 t.2.1 t.2.2) (fun w : (Option Int) => Rs.d (optD PyData.int w))) := by
  refine (fn_pure (N := ["net", "makes", "barred"]) (ps := ["net", "makes", "barred"]) F sc_p_halving_make (view := (fun w : (Option Int) => (Fl.ex w : Fl Empty (Option Int)))) (Γf := (fun z : Empty => z.elim)) (Xf := (fun w : (Option Int) => Xo.rt (optD PyData.int w) [])) [true, false, false] (fun _ => rfl) (by decide) (fun t => ⟨fun _ => (flat_tup (fun _ => (flat_tup (fun _ => rfl) _)) _), ⟨(fun q => nomatch q), ⟨(fun q => nomatch q), trivial⟩⟩⟩) (fun w => rfl) ?_)
  intro X W h t
  obtain ⟨p_net, p_makes, p_barred⟩ := t
  have C := h.cf
  have hb_sorted : X.mg "sorted" = none := by rw [h.mg]; exact E.b_sorted
  have hb_set : X.mg "set" = none := by rw [h.mg]; exact E.b_set
  have c_m_p_bits_of := (ok_p_bits_of (P := P) (w := w) (base := base) E).cP h (by decide)
  have c_m_p_some_of := (ok_p_some_of (P := P) (w := w) (base := base) E).cP h (by decide)
  have c_m_p_evenest := (ok_p_evenest (P := P) (w := w) (base := base) E).cP h (by decide)
  have n0 : (["net", "makes", "barred"] : List Str)[0]? = some ("net" : Str) := rfl
  have v0 : visB (defScope (top 10)) "net" = true := by decide +kernel
  have s0 : Sto X (defScope (top 10)) "net" := sto_c h.fn (by decide +kernel)
  have n1 : (["net", "makes", "barred"] : List Str)[1]? = some ("makes" : Str) := rfl
  have v1 : visB (defScope (top 10)) "makes" = true := by decide +kernel
  have s1 : Sto X (defScope (top 10)) "makes" := sto_c h.fn (by decide +kernel)
  have n2 : (["net", "makes", "barred"] : List Str)[2]? = some ("barred" : Str) := rfl
  have v2 : visB (defScope (top 10)) "barred" = true := by decide +kernel
  have s2 : Sto X (defScope (top 10)) "barred" := sto_c h.fn (by decide +kernel)
  show Ex X W _ _ (m_p_halving_make p_net p_makes p_barred) _ _ _
  unfold m_p_halving_make
  exact (asΓ [.dat true (PyData.tuple (List.map (fun xs : (List Int) => PyData.tuple (List.map PyData.int xs)) p_net)), .dat false (PyData.list (List.map PyData.int p_makes)), .dat false (PyData.list (List.map PyData.int p_barred))] (ex_ret (ev_call C c_m_p_evenest (by decide +kernel) (eva_cons (as := fun z932 : ((List Int) × (List Int) × (List Int)) => [.d true (PyData.list (List.map PyData.int z932.1)), .d true (PyData.list (List.map PyData.int z932.2.1)), .d true (PyData.list (List.map PyData.int z932.2.2))]) (Γk := fun z932 : ((List Int) × (List Int) × (List Int)) => [.dat true (PyData.tuple (List.map (fun xs : (List Int) => PyData.tuple (List.map PyData.int xs)) p_net)), .dat false (PyData.list (List.map PyData.int p_makes)), .dat false (PyData.list (List.map PyData.int p_barred))]) (fun x923 y931 => (x923, y931.1, y931.2)) (EvF.ev (evf_callP C c_m_p_bits_of (by decide +kernel) (evap_cons (evp_var C rfl n0 v0) eva_nil) (fun _ _ => .nil) p_net (.d .nil) rfl (fun r : (List Int) => (List.map PyData.int r)))) (fun x923 => (eva_cons (as := fun z930 : ((List Int) × (List Int)) => [.d true (PyData.list (List.map PyData.int z930.1)), .d true (PyData.list (List.map PyData.int z930.2))]) (Γk := fun z930 : ((List Int) × (List Int)) => [.dat true (PyData.tuple (List.map (fun xs : (List Int) => PyData.tuple (List.map PyData.int xs)) p_net)), .dat false (PyData.list (List.map PyData.int p_makes)), .dat false (PyData.list (List.map PyData.int p_barred))]) (fun x925 y929 => ((setI x925), y929)) (EvF.ev (evf_sset (ns := fun r924 : (List Int) => r924) C (by decide +kernel) hb_sorted (by decide +kernel) hb_set (EvP.to (evp_var C rfl n1 v1) p_makes (fun xs : (List Int) => PyData.list (List.map PyData.int xs))))) (fun x925 => (eva_cons (as := fun z928 : (List Int) => [.d true (PyData.list (List.map PyData.int z928))]) (Γk := fun z928 : (List Int) => [.dat true (PyData.tuple (List.map (fun xs : (List Int) => PyData.tuple (List.map PyData.int xs)) p_net)), .dat false (PyData.list (List.map PyData.int p_makes)), .dat false (PyData.list (List.map PyData.int p_barred))]) (fun x926 y927 => x926) (EvF.ev (evf_callP C c_m_p_some_of (by decide +kernel) (evap_cons (evp_var C rfl n2 v2) eva_nil) (fun _ _ => .nil) p_barred (.d .nil) rfl (fun r : (List Int) => (List.map PyData.int r)))) (fun x926 => eva_nil)))))) (fun _ _ => .nil) (fun a933 : ((List Int) × (List Int) × (List Int)) => (a933.1, a933.2.1, a933.2.2)) (fun _ => ⟨_, (.d (.d (.d .nil))), rfl⟩) (fun a933 r934 => r934) (fun z935 : (Option Int) => (optD PyData.int z935)) (fun z935 : (Option Int) => [.dat true (PyData.tuple (List.map (fun xs : (List Int) => PyData.tuple (List.map PyData.int xs)) p_net)), .dat false (PyData.list (List.map PyData.int p_makes)), .dat false (PyData.list (List.map PyData.int p_barred))])) (io := fun r936 => []) (hio := fun r936 => trivial)))

theorem ok_p_halving_make {P : Program} {w : World} {K : PySem.W.Frag} {mg : Str → Option Value} {base : Heap} (E : Env K mg) : Gv P w K mg base 4 "halving_make" [] (spP K mg (fun t : ((List (List Int)) × (List Int) × (List Int)) => [(PyData.tuple (List.map (fun xs : (List Int) => PyData.tuple (List.map PyData.int xs)) t.1)), (PyData.list (List.map PyData.int t.2.1)), (PyData.list (List.map PyData.int t.2.2))]) (fun t => m_p_halving_make t.1 t.2.1 t.2.2) (fun w : (Option Int) => Rs.d (optD PyData.int w))) := by
  obtain ⟨f, fd, F, hmg⟩ := E.d_p_halving_make
  obtain ⟨ds, hv, hb⟩ := F.binds1 (ps := ["net", "makes", "barred"]) 3 1 (by simp) rfl (fun T kV doc pm an cdv ct us its h1 h2 => match us, its, h1, h2 with | [_, _, _], [_], _, _ => ⟨_, rfl, rfl⟩)
  exact Gv.of F hmg (fo_p_halving_make E F) hb hv

def m_qbest (qcomings_here : (List (List Bool))) (qmakes : (List Int)) (qshut : (List Int)) : R (Option Int) :=
  (R.bind (R.bind (R.val qmakes) fun (r1025 : (List Int)) => R.bind (R.req (lt64 r1025)) fun _ => R.val r1025) fun (qown1026 : (List Int)) => (R.bind (R.val (none : (Option Int))) fun (qbest_here1027 : (Option Int)) => (R.bind (R.val (0 : Int)) fun (qmost1028 : Int) => (R.bind (R.req (cRng 0 ((qcomings_here.length : Nat) : Int))) fun _ => (R.bind (R.fold (fun (s1069 : ((Option Int) × Int)) (x1030 : Int) => (R.bind (R.bind (R.req (szB (setI qown1026))) fun _ => R.comp (fun x1070 : Int => (R.bind (R.ofO (atI qcomings_here x1030)) fun (x1071 : (List Bool)) => (R.bind (R.ofO (atI x1071 x1070)) fun (x1073 : Bool) => (R.val x1073)))) (fun x1070 : Int => (R.val x1070)) (setI qown1026)) fun (qbad1076 : (List Int)) => (R.bind (R.ofO (ninB (PyData.int x1030) (PyData.list (List.map PyData.int qshut)))) fun (z1077 : Bool) => (R.bind (if (z1077 && (decide (s1069.2 < (min2 ((qbad1076.length : Nat) : Int) ((((setI qown1026).length : Nat) : Int) - ((qbad1076.length : Nat) : Int)))))) = true then (R.bind (R.val (some x1030)) fun (qbest_here1098 : (Option Int)) => (R.bind (R.val (min2 ((qbad1076.length : Nat) : Int) ((((setI qown1026).length : Nat) : Int) - ((qbad1076.length : Nat) : Int)))) fun (qmost1107 : Int) => (R.val (qbest_here1098, qmost1107)))) else (R.val (s1069.1, s1069.2))) fun (j1097 : ((Option Int) × Int)) => (R.val (j1097.1, j1097.2)))))) (rng 0 ((qcomings_here.length : Nat) : Int)) (qbest_here1027, qmost1028)) fun (s1069 : ((Option Int) × Int)) => (R.val s1069.1))))))
theorem sc_qbest : FnScope ["_law_comings_here", "_law_makes", "_law_shut", "_law_own", "_law_best_here", "_law_most", "_law_make", "_law_bad", "_law_one"] ["_law_comings_here", "_law_makes", "_law_shut"] (defScope (top 22)) := ⟨rfl, rfl, rfl, by decide +kernel, rfl, by decide +kernel, by decide +kernel⟩
theorem fo_qbest {P : Program} {w : World} {K : PySem.W.Frag} {mg : Str → Option Value} {base : Heap} (E : Env K mg) {f : Addr} {fd : FuncData} (F : FunD K "_law_best" "_law_best" (defArgs (top 22)) (defBody (top 22)) (defScope (top 22)) [] [] f fd) : FnOk P w K mg base (L2.CX P w) 1 f fd ["_law_comings_here", "_law_makes", "_law_shut"] (spP K mg (fun t : ((List (List Bool)) × (List Int) × (List Int)) => [(PyData.list (List.map (fun xs : (List Bool) => PyData.list (List.map PyData.bool xs)) t.1)), (PyData.list (List.map PyData.int t.2.1)), (PyData.list (List.map PyData.int t.2.2))]) (fun t => m_qbest t.1 t.2.1 t.2.2) (fun w : (Option Int) => Rs.d (optD PyData.int w))) := by
  refine (fn_pure (N := ["_law_comings_here", "_law_makes", "_law_shut", "_law_own", "_law_best_here", "_law_most", "_law_make", "_law_bad", "_law_one"]) (ps := ["_law_comings_here", "_law_makes", "_law_shut"]) F sc_qbest (view := (fun w : (Option Int) => (Fl.ex w : Fl Empty (Option Int)))) (Γf := (fun z : Empty => z.elim)) (Xf := (fun w : (Option Int) => Xo.rt (optD PyData.int w) [])) [false, false, false] (fun _ => rfl) (by decide) (fun t => ⟨(fun q => nomatch q), ⟨(fun q => nomatch q), ⟨(fun q => nomatch q), trivial⟩⟩⟩) (fun w => rfl) ?_)
  intro X W h t
  obtain ⟨qcomings_here, qmakes, qshut⟩ := t
  have C := h.cf
  have hb_sorted : X.mg "sorted" = none := by rw [h.mg]; exact E.b_sorted
  have hb_set : X.mg "set" = none := by rw [h.mg]; exact E.b_set
  have hb_range : X.mg "range" = none := by rw [h.mg]; exact E.b_range
  have hb_len : X.mg "len" = none := by rw [h.mg]; exact E.b_len
  have hb_min : X.mg "min" = none := by rw [h.mg]; exact E.b_min
  have n0 : (["_law_comings_here", "_law_makes", "_law_shut", "_law_own", "_law_best_here", "_law_most", "_law_make", "_law_bad", "_law_one"] : List Str)[0]? = some ("_law_comings_here" : Str) := rfl
  have v0 : visB (defScope (top 22)) "_law_comings_here" = true := by decide +kernel
  have s0 : Sto X (defScope (top 22)) "_law_comings_here" := sto_c h.fn (by decide +kernel)
  have n1 : (["_law_comings_here", "_law_makes", "_law_shut", "_law_own", "_law_best_here", "_law_most", "_law_make", "_law_bad", "_law_one"] : List Str)[1]? = some ("_law_makes" : Str) := rfl
  have v1 : visB (defScope (top 22)) "_law_makes" = true := by decide +kernel
  have s1 : Sto X (defScope (top 22)) "_law_makes" := sto_c h.fn (by decide +kernel)
  have n2 : (["_law_comings_here", "_law_makes", "_law_shut", "_law_own", "_law_best_here", "_law_most", "_law_make", "_law_bad", "_law_one"] : List Str)[2]? = some ("_law_shut" : Str) := rfl
  have v2 : visB (defScope (top 22)) "_law_shut" = true := by decide +kernel
  have s2 : Sto X (defScope (top 22)) "_law_shut" := sto_c h.fn (by decide +kernel)
  have n3 : (["_law_comings_here", "_law_makes", "_law_shut", "_law_own", "_law_best_here", "_law_most", "_law_make", "_law_bad", "_law_one"] : List Str)[3]? = some ("_law_own" : Str) := rfl
  have v3 : visB (defScope (top 22)) "_law_own" = true := by decide +kernel
  have s3 : Sto X (defScope (top 22)) "_law_own" := sto_c h.fn (by decide +kernel)
  have n4 : (["_law_comings_here", "_law_makes", "_law_shut", "_law_own", "_law_best_here", "_law_most", "_law_make", "_law_bad", "_law_one"] : List Str)[4]? = some ("_law_best_here" : Str) := rfl
  have v4 : visB (defScope (top 22)) "_law_best_here" = true := by decide +kernel
  have s4 : Sto X (defScope (top 22)) "_law_best_here" := sto_c h.fn (by decide +kernel)
  have n5 : (["_law_comings_here", "_law_makes", "_law_shut", "_law_own", "_law_best_here", "_law_most", "_law_make", "_law_bad", "_law_one"] : List Str)[5]? = some ("_law_most" : Str) := rfl
  have v5 : visB (defScope (top 22)) "_law_most" = true := by decide +kernel
  have s5 : Sto X (defScope (top 22)) "_law_most" := sto_c h.fn (by decide +kernel)
  have n6 : (["_law_comings_here", "_law_makes", "_law_shut", "_law_own", "_law_best_here", "_law_most", "_law_make", "_law_bad", "_law_one"] : List Str)[6]? = some ("_law_make" : Str) := rfl
  have v6 : visB (defScope (top 22)) "_law_make" = true := by decide +kernel
  have s6 : Sto X (defScope (top 22)) "_law_make" := sto_c h.fn (by decide +kernel)
  have n7 : (["_law_comings_here", "_law_makes", "_law_shut", "_law_own", "_law_best_here", "_law_most", "_law_make", "_law_bad", "_law_one"] : List Str)[7]? = some ("_law_bad" : Str) := rfl
  have v7 : visB (defScope (top 22)) "_law_bad" = true := by decide +kernel
  have s7 : Sto X (defScope (top 22)) "_law_bad" := sto_c h.fn (by decide +kernel)
  have n8 : (["_law_comings_here", "_law_makes", "_law_shut", "_law_own", "_law_best_here", "_law_most", "_law_make", "_law_bad", "_law_one"] : List Str)[8]? = some ("_law_one" : Str) := rfl
  show Ex X W _ _ (m_qbest qcomings_here qmakes qshut) _ _ _
  unfold m_qbest
  exact (asΓ [.dat false (PyData.list (List.map (fun xs : (List Bool) => PyData.list (List.map PyData.bool xs)) qcomings_here)), .dat false (PyData.list (List.map PyData.int qmakes)), .dat false (PyData.list (List.map PyData.int qshut)), .un, .un, .un, .un, .un, .un] (ex_set (enc := fun qown1026 : (List Int) => (PyData.list (List.map PyData.int (setI qown1026)))) (Γ1 := fun qown1026 : (List Int) => [.dat false (PyData.list (List.map (fun xs : (List Bool) => PyData.list (List.map PyData.bool xs)) qcomings_here)), .dat false (PyData.list (List.map PyData.int qmakes)), .dat false (PyData.list (List.map PyData.int qshut)), .un, .un, .un, .un, .un, .un]) C 3 n3 s3 (EvF.ev (evf_sset (ns := fun r1025 : (List Int) => r1025) C (by decide +kernel) hb_sorted (by decide +kernel) hb_set (EvP.to (evp_var C rfl n1 v1) qmakes (fun xs : (List Int) => PyData.list (List.map PyData.int xs))))) fun qown1026 => (asΓ [.dat false (PyData.list (List.map (fun xs : (List Bool) => PyData.list (List.map PyData.bool xs)) qcomings_here)), .dat false (PyData.list (List.map PyData.int qmakes)), .dat false (PyData.list (List.map PyData.int qshut)), .dat true (PyData.list (List.map PyData.int (setI qown1026))), .un, .un, .un, .un, .un] (ex_set C 4 n4 s4 (EvP.to evp_none (none : (Option Int)) (optD PyData.int)) fun qbest_here1027 => (asΓ [.dat false (PyData.list (List.map (fun xs : (List Bool) => PyData.list (List.map PyData.bool xs)) qcomings_here)), .dat false (PyData.list (List.map PyData.int qmakes)), .dat false (PyData.list (List.map PyData.int qshut)), .dat true (PyData.list (List.map PyData.int (setI qown1026))), .dat true (optD PyData.int qbest_here1027), .un, .un, .un, .un] (ex_set C 5 n5 s5 (EvP.to evp_int (0 : Int) PyData.int) fun qmost1028 => (asΓ [.dat false (PyData.list (List.map (fun xs : (List Bool) => PyData.list (List.map PyData.bool xs)) qcomings_here)), .dat false (PyData.list (List.map PyData.int qmakes)), .dat false (PyData.list (List.map PyData.int qshut)), .dat true (PyData.list (List.map PyData.int (setI qown1026))), .dat true (optD PyData.int qbest_here1027), .dat true (PyData.int qmost1028), .un, .un, .un] (ex_req fun h1029 => (ex_forSP (Γs := (fun s1069 : ((Option Int) × Int) => [.dat false (PyData.list (List.map (fun xs : (List Bool) => PyData.list (List.map PyData.bool xs)) qcomings_here)), .dat false (PyData.list (List.map PyData.int qmakes)), .dat false (PyData.list (List.map PyData.int qshut)), .dat true (PyData.list (List.map PyData.int (setI qown1026))), .dat true (optD PyData.int s1069.1), .dat true (PyData.int s1069.2), .un, .un, .un])) C [] (evip_range1 C hb_range (by decide +kernel) h1029 (evp_lenL (enc := (fun xs : (List Bool) => PyData.list (List.map PyData.bool xs))) (xs := qcomings_here) C hb_len (by decide +kernel) (evp_var C rfl n0 v0) .d)) (tg_name (fr := true) (enc := PyData.int) C 6 n6 s6) rfl (fun s1069 x1030 => (asΓ [.dat false (PyData.list (List.map (fun xs : (List Bool) => PyData.list (List.map PyData.bool xs)) qcomings_here)), .dat false (PyData.list (List.map PyData.int qmakes)), .dat false (PyData.list (List.map PyData.int qshut)), .dat true (PyData.list (List.map PyData.int (setI qown1026))), .dat true (optD PyData.int s1069.1), .dat true (PyData.int s1069.2), .dat true (PyData.int x1030), .un, .un] (ex_set (enc := fun qbad1076 : (List Int) => (PyData.int ((qbad1076.length : Nat) : Int))) (Γ1 := fun qbad1076 : (List Int) => [.dat false (PyData.list (List.map (fun xs : (List Bool) => PyData.list (List.map PyData.bool xs)) qcomings_here)), .dat false (PyData.list (List.map PyData.int qmakes)), .dat false (PyData.list (List.map PyData.int qshut)), .dat true (PyData.list (List.map PyData.int (setI qown1026))), .dat true (optD PyData.int s1069.1), .dat true (PyData.int s1069.2), .dat true (PyData.int x1030), .un, .un]) C 7 n7 s7 (ev_lenM (n := fun r1075 : (List Int) => ((r1075.length : Nat) : Int)) C hb_len (by decide +kernel) (EvF.ev (evf_compM (own := [("_law_one", 8)]) (items := (setI qown1026)) (encO := PyData.int) (Γ0 := [.dat false (PyData.list (List.map (fun xs : (List Bool) => PyData.list (List.map PyData.bool xs)) qcomings_here)), .dat false (PyData.list (List.map PyData.int qmakes)), .dat false (PyData.list (List.map PyData.int qshut)), .dat true (PyData.list (List.map PyData.int (setI qown1026))), .dat true (optD PyData.int s1069.1), .dat true (PyData.int s1069.2), .dat true (PyData.int x1030), .un, .un]) (t := fun x1070 : Int => (R.bind (R.ofO (atI qcomings_here x1030)) fun (x1071 : (List Bool)) => (R.bind (R.ofO (atI x1071 x1070)) fun (x1073 : Bool) => (R.val x1073)))) (el := fun x1070 : Int => (R.val x1070)) C ⟨(evip_list (evp_var C rfl n3 v3)), (by decide +kernel), (fun _ _ _ _ _ => (tg_name (fr := true) (enc := PyData.int) (Cf.blk C) 8 n8 (sto_l (by decide +kernel)))), (fun _ _ _ _ _ x1070 => (evts_one (evt_pre fun x1071 h1072 => (evt_pre fun x1073 h1074 => (EvTP.to (EvP.tst (EvP.free (fr' := true) (evp_ixL (enc := PyData.bool) (xs := x1071) (evp_ixL (enc := (fun xs : (List Bool) => PyData.list (List.map PyData.bool xs))) (xs := qcomings_here) (evp_var (Cf.blk C) rfl n0 (by decide +kernel)) (evp_var (Cf.blk C) rfl n6 (by decide +kernel)) h1072) (evp_var (Cf.blk C) rfl n8 (by decide +kernel)) h1074) rfl))))))), (fun _ _ _ _ _ x1070 => (EvP.to (evp_var (Cf.blk C) rfl n8 (by decide +kernel)) x1070 PyData.int)), rfl, (by decide), (fun _ => rfl), (un1 rfl), (fun _ => rfl)⟩)) (fun _ => by simp)) fun qbad1076 => (asΓ [.dat false (PyData.list (List.map (fun xs : (List Bool) => PyData.list (List.map PyData.bool xs)) qcomings_here)), .dat false (PyData.list (List.map PyData.int qmakes)), .dat false (PyData.list (List.map PyData.int qshut)), .dat true (PyData.list (List.map PyData.int (setI qown1026))), .dat true (optD PyData.int s1069.1), .dat true (PyData.int s1069.2), .dat true (PyData.int x1030), .dat true (PyData.int ((qbad1076.length : Nat) : Int)), .un] (ex_pre fun z1077 h1078 => (ex_ifSP (Γj := (fun j1097 : ((Option Int) × Int) => [.dat false (PyData.list (List.map (fun xs : (List Bool) => PyData.list (List.map PyData.bool xs)) qcomings_here)), .dat false (PyData.list (List.map PyData.int qmakes)), .dat false (PyData.list (List.map PyData.int qshut)), .dat true (PyData.list (List.map PyData.int (setI qown1026))), .dat true (optD PyData.int j1097.1), .dat true (PyData.int j1097.2), .dat true (PyData.int x1030), .dat true (PyData.int ((qbad1076.length : Nat) : Int)), .un])) (EvW.t (evw_and (EvP.tstC (Sem2.pu (s2_notin (u65 C)) h1078 (evp_var C rfl n6 v6) (evp_var C rfl n2 v2) .d .d)) (evw_and1 (EvP.tstC (evp_gt (ev_min2 (γ := Unit) (fa := fun _ => ((qbad1076.length : Nat) : Int)) (fb := fun _ => ((((setI qown1026).length : Nat) : Int) - ((qbad1076.length : Nat) : Int))) C hb_min (by decide +kernel) (evap_cons (evp_var C rfl n7 v7) (evap_cons (evp_sub (evp_lenL (enc := PyData.int) (xs := (setI qown1026)) C hb_len (by decide +kernel) (evp_var C rfl n3 v3) .d) (evp_var C rfl n7 v7)) eva_nil)) (fun _ => ()) (fun _ => min2 ((qbad1076.length : Nat) : Int) ((((setI qown1026).length : Nat) : Int) - ((qbad1076.length : Nat) : Int))) (fun _ => [.dat false (PyData.list (List.map (fun xs : (List Bool) => PyData.list (List.map PyData.bool xs)) qcomings_here)), .dat false (PyData.list (List.map PyData.int qmakes)), .dat false (PyData.list (List.map PyData.int qshut)), .dat true (PyData.list (List.map PyData.int (setI qown1026))), .dat true (optD PyData.int s1069.1), .dat true (PyData.int s1069.2), .dat true (PyData.int x1030), .dat true (PyData.int ((qbad1076.length : Nat) : Int)), .un])) (evp_var C rfl n5 v5)))))) (asΓ [.dat false (PyData.list (List.map (fun xs : (List Bool) => PyData.list (List.map PyData.bool xs)) qcomings_here)), .dat false (PyData.list (List.map PyData.int qmakes)), .dat false (PyData.list (List.map PyData.int qshut)), .dat true (PyData.list (List.map PyData.int (setI qown1026))), .dat true (optD PyData.int s1069.1), .dat true (PyData.int s1069.2), .dat true (PyData.int x1030), .dat true (PyData.int ((qbad1076.length : Nat) : Int)), .un] (ex_set C 4 n4 s4 (EvP.to (evp_var C rfl n6 v6) (some x1030) (optD PyData.int)) fun qbest_here1098 => (asΓ [.dat false (PyData.list (List.map (fun xs : (List Bool) => PyData.list (List.map PyData.bool xs)) qcomings_here)), .dat false (PyData.list (List.map PyData.int qmakes)), .dat false (PyData.list (List.map PyData.int qshut)), .dat true (PyData.list (List.map PyData.int (setI qown1026))), .dat true (optD PyData.int qbest_here1098), .dat true (PyData.int s1069.2), .dat true (PyData.int x1030), .dat true (PyData.int ((qbad1076.length : Nat) : Int)), .un] (ex_set C 5 n5 s5 (EvP.to (ev_min2 (γ := Unit) (fa := fun _ => ((qbad1076.length : Nat) : Int)) (fb := fun _ => ((((setI qown1026).length : Nat) : Int) - ((qbad1076.length : Nat) : Int))) C hb_min (by decide +kernel) (evap_cons (evp_var C rfl n7 v7) (evap_cons (evp_sub (evp_lenL (enc := PyData.int) (xs := (setI qown1026)) C hb_len (by decide +kernel) (evp_var C rfl n3 v3) .d) (evp_var C rfl n7 v7)) eva_nil)) (fun _ => ()) (fun _ => min2 ((qbad1076.length : Nat) : Int) ((((setI qown1026).length : Nat) : Int) - ((qbad1076.length : Nat) : Int))) (fun _ => [.dat false (PyData.list (List.map (fun xs : (List Bool) => PyData.list (List.map PyData.bool xs)) qcomings_here)), .dat false (PyData.list (List.map PyData.int qmakes)), .dat false (PyData.list (List.map PyData.int qshut)), .dat true (PyData.list (List.map PyData.int (setI qown1026))), .dat true (optD PyData.int qbest_here1098), .dat true (PyData.int s1069.2), .dat true (PyData.int x1030), .dat true (PyData.int ((qbad1076.length : Nat) : Int)), .un])) (min2 ((qbad1076.length : Nat) : Int) ((((setI qown1026).length : Nat) : Int) - ((qbad1076.length : Nat) : Int))) PyData.int) fun qmost1107 => (ex_nil [] rfl rfl))))) (ex_nil [] rfl rfl) (fun j1097 => (ex_nil [6, 7] rfl rfl)))))))) (fun s1069 => (asΓ [.dat false (PyData.list (List.map (fun xs : (List Bool) => PyData.list (List.map PyData.bool xs)) qcomings_here)), .dat false (PyData.list (List.map PyData.int qmakes)), .dat false (PyData.list (List.map PyData.int qshut)), .dat true (PyData.list (List.map PyData.int (setI qown1026))), .dat true (optD PyData.int s1069.1), .dat true (PyData.int s1069.2), .un, .un, .un] (ex_retP (evp_var C rfl n4 v4) [] trivial))))))))))))

theorem ok_qbest {P : Program} {w : World} {K : PySem.W.Frag} {mg : Str → Option Value} {base : Heap} (E : Env K mg) : Gv P w K mg base 1 "_law_best" [] (spP K mg (fun t : ((List (List Bool)) × (List Int) × (List Int)) => [(PyData.list (List.map (fun xs : (List Bool) => PyData.list (List.map PyData.bool xs)) t.1)), (PyData.list (List.map PyData.int t.2.1)), (PyData.list (List.map PyData.int t.2.2))]) (fun t => m_qbest t.1 t.2.1 t.2.2) (fun w : (Option Int) => Rs.d (optD PyData.int w))) := by
  obtain ⟨f, fd, F, hmg⟩ := E.d_qbest
  exact Gv.of F hmg (fo_qbest E F) (F.bindsN fun _ _ _ _ _ _ us hl => match us, hl with | [_, _, _], _ => rfl) .nil

def m_qis (qfound : (Option Int)) (qdue : (Option Int)) : R Bool :=
  (if (Option.isNone qdue) = true then (R.val (Option.isNone qfound)) else (R.val ((Option.isSome qfound) && (decide (qfound = qdue)))))
theorem sc_qis : FnScope ["_law_found", "_law_due"] ["_law_found", "_law_due"] (defScope (top 23)) := ⟨rfl, rfl, rfl, by decide +kernel, rfl, by decide +kernel, by decide +kernel⟩
theorem fo_qis {P : Program} {w : World} {K : PySem.W.Frag} {mg : Str → Option Value} {base : Heap} (E : Env K mg) {f : Addr} {fd : FuncData} (F : FunD K "_law_is" "_law_is" (defArgs (top 23)) (defBody (top 23)) (defScope (top 23)) [] [] f fd) : FnOk P w K mg base (L2.CX P w) 1 f fd ["_law_found", "_law_due"] (spP K mg (fun t : ((Option Int) × (Option Int)) => [(optD PyData.int t.1), (optD PyData.int t.2)]) (fun t => m_qis t.1 t.2) (fun w : Bool => Rs.d (PyData.bool w))) := by
  refine (fn_pure (N := ["_law_found", "_law_due"]) (ps := ["_law_found", "_law_due"]) F sc_qis (view := (fun w : Bool => (Fl.ex w : Fl Empty Bool))) (Γf := (fun z : Empty => z.elim)) (Xf := (fun w : Bool => Xo.rt (PyData.bool w) [])) [true, true] (fun _ => rfl) (by decide) (fun t => ⟨fun _ => (flat_opt (fun _ => rfl) _), ⟨fun _ => (flat_opt (fun _ => rfl) _), trivial⟩⟩) (fun w => rfl) ?_)
  intro X W h t
  obtain ⟨qfound, qdue⟩ := t
  have C := h.cf
  have hb_isinstance : X.mg "isinstance" = none := by rw [h.mg]; exact E.b_isinstance
  have hb_int : X.mg "int" = none := by rw [h.mg]; exact E.b_int
  have hb_bool : X.mg "bool" = none := by rw [h.mg]; exact E.b_bool
  have n0 : (["_law_found", "_law_due"] : List Str)[0]? = some ("_law_found" : Str) := rfl
  have v0 : visB (defScope (top 23)) "_law_found" = true := by decide +kernel
  have s0 : Sto X (defScope (top 23)) "_law_found" := sto_c h.fn (by decide +kernel)
  have n1 : (["_law_found", "_law_due"] : List Str)[1]? = some ("_law_due" : Str) := rfl
  have v1 : visB (defScope (top 23)) "_law_due" = true := by decide +kernel
  have s1 : Sto X (defScope (top 23)) "_law_due" := sto_c h.fn (by decide +kernel)
  show Ex X W _ _ (m_qis qfound qdue) _ _ _
  unfold m_qis
  exact (asΓ [.dat true (optD PyData.int qfound), .dat true (optD PyData.int qdue)] (ex_ifXP (viewA := (fun w : Bool => (Fl.ex w : Fl Empty Bool))) (EvP.tstC (evp_isO (enc := PyData.int) (o := qdue) (fun _ => rfl) (evp_var C rfl n1 v1) evp_none)) (asΓ [.dat true (optD PyData.int qfound), .dat true (optD PyData.int qdue)] (ex_retP (evp_isO (enc := PyData.int) (o := qfound) (fun _ => rfl) (evp_var C rfl n0 v0) evp_none) [] trivial)) (asΓ [.dat true (optD PyData.int qfound), .dat true (optD PyData.int qdue)] (ex_retP (evv_and (EvP.bl (evp_isi (d := (optD PyData.int qfound)) C hb_isinstance (by decide +kernel) hb_int (by decide +kernel) (show bootBuiltins "int" = some (.type "int") by decide +kernel) (evp_var C rfl n0 v0) .d (tyIs_kit _ .int)) (tyo_int _)) (evv_and (evv_not (EvP.bl (evp_isi (d := (optD PyData.int qfound)) C hb_isinstance (by decide +kernel) hb_bool (by decide +kernel) (show bootBuiltins "bool" = some (.type "bool") by decide +kernel) (evp_var C rfl n0 v0) .d (tyIs_kit _ .bool)) (tyo_bool _))) (evv_one (evp_eqT C eqt_optI (x := qfound) (y := qdue) (evp_var C rfl n0 v0) (evp_var C rfl n1 v1) .d .d)))) [] trivial))))

theorem ok_qis {P : Program} {w : World} {K : PySem.W.Frag} {mg : Str → Option Value} {base : Heap} (E : Env K mg) : Gv P w K mg base 1 "_law_is" [] (spP K mg (fun t : ((Option Int) × (Option Int)) => [(optD PyData.int t.1), (optD PyData.int t.2)]) (fun t => m_qis t.1 t.2) (fun w : Bool => Rs.d (PyData.bool w))) := by
  obtain ⟨f, fd, F, hmg⟩ := E.d_qis
  exact Gv.of F hmg (fo_qis E F) (F.bindsN fun _ _ _ _ _ _ us hl => match us, hl with | [_, _], _ => rfl) .nil

def m_p_some_of_2 (p_makes : Unit) : R (List Int) :=
  (if true = true then (R.val ([] : (List Int))) else R.bad)
theorem fo_p_some_of_2 {P : Program} {w : World} {K : PySem.W.Frag} {mg : Str → Option Value} {base : Heap} (E : Env K mg) {f : Addr} {fd : FuncData} (F : FunD K "some_of" "some_of" (defArgs (top 5)) (defBody (top 5)) (defScope (top 5)) [] [] f fd) : FnOk P w K mg base (L2.CX P w) 1 f fd ["makes"] (spP K mg (fun t : Unit => [PyData.none]) (fun t => m_p_some_of_2 t) (fun w : (List Int) => Rs.f (List.map PyData.int w))) := by
  refine (fn_pure (N := ["makes"]) (ps := ["makes"]) F sc_p_some_of (view := (fun w : (List Int) => (Fl.ex w : Fl Empty (List Int)))) (Γf := (fun z : Empty => z.elim)) (Xf := (fun w : (List Int) => Xo.rtF (List.map PyData.int w) [])) [true] (fun _ => rfl) (by decide) (fun t => ⟨fun _ => rfl, trivial⟩) (fun w => rfl) ?_)
  intro X W h t
  generalize t = p_makes
  have C := h.cf
  have n0 : (["makes"] : List Str)[0]? = some ("makes" : Str) := rfl
  have v0 : visB (defScope (top 5)) "makes" = true := by decide +kernel
  have s0 : Sto X (defScope (top 5)) "makes" := sto_c h.fn (by decide +kernel)
  show Ex X W _ _ (m_p_some_of_2 p_makes) _ _ _
  unfold m_p_some_of_2
  exact (asΓ [.dat true PyData.none] (ex_ifXP (viewA := (fun w : (List Int) => (Fl.ex w : Fl Empty (List Int)))) (EvP.tstC (evp_isN (evp_var C rfl n0 v0) evp_none)) (asΓ [.dat true PyData.none] (ex_retFP (evfp_lst eva_nil .nil rfl) [] trivial)) ex_bad))

theorem ok_p_some_of_2 {P : Program} {w : World} {K : PySem.W.Frag} {mg : Str → Option Value} {base : Heap} (E : Env K mg) : Gv P w K mg base 1 "some_of" [] (spP K mg (fun t : Unit => [PyData.none]) (fun t => m_p_some_of_2 t) (fun w : (List Int) => Rs.f (List.map PyData.int w))) := by
  obtain ⟨f, fd, F, hmg⟩ := E.d_p_some_of
  exact Gv.of F hmg (fo_p_some_of_2 E F) (F.bindsN fun _ _ _ _ _ _ us hl => match us, hl with | [_], _ => rfl) .nil

def m_p_halving_make_2 (p_net : (List (List Int))) (p_makes : (List Int)) (p_barred : Unit) : R (Option Int) :=
  (R.bind (R.bind (R.bind (m_p_bits_of p_net) fun (x1132 : (List Int)) => R.bind (R.bind (R.bind (R.val p_makes) fun (r1133 : (List Int)) => R.bind (R.req (lt64 r1133)) fun _ => R.val r1133) fun (x1134 : (List Int)) => R.bind (R.bind (m_p_some_of_2 p_barred) fun (x1135 : (List Int)) => R.bind (R.val ()) fun (y1136 : Unit) => R.val x1135) fun (y1138 : (List Int)) => R.val ((setI x1134), y1138)) fun (y1140 : ((List Int) × (List Int))) => R.val (x1132, y1140.1, y1140.2)) fun (a1142 : ((List Int) × (List Int) × (List Int))) => R.bind (m_p_evenest a1142.1 a1142.2.1 a1142.2.2) fun (r1143 : (Option Int)) => R.val r1143) fun (r1145 : (Option Int)) => (R.val r1145))
theorem fo_p_halving_make_2 {P : Program} {w : World} {K : PySem.W.Frag} {mg : Str → Option Value} {base : Heap} (E : Env K mg) {f : Addr} {fd : FuncData} (F : FunD K "halving_make" "halving_make" (defArgs (top 10)) (defBody (top 10)) (defScope (top 10)) [V.non] [] f fd) : FnOk P w K mg base (L2.CX P w) 4 f fd ["net", "makes", "barred"] (spP K mg (fun t : ((List (List Int)) × (List Int) × Unit) => [(PyData.tuple (List.map (fun xs : (List Int) => PyData.tuple (List.map PyData.int xs)) t.1)), (PyData.tuple (List.map PyData.int t.2.1)), PyData.none]) (fun t => m_p_halving_make_2 t.1 t.2.1 t.2.2) (fun w : (Option Int) => Rs.d (optD PyData.int w))) := by
  refine (fn_pure (N := ["net", "makes", "barred"]) (ps := ["net", "makes", "barred"]) F sc_p_halving_make (view := (fun w : (Option Int) => (Fl.ex w : Fl Empty (Option Int)))) (Γf := (fun z : Empty => z.elim)) (Xf := (fun w : (Option Int) => Xo.rt (optD PyData.int w) [])) [true, true, true] (fun _ => rfl) (by decide) (fun t => ⟨fun _ => (flat_tup (fun _ => (flat_tup (fun _ => rfl) _)) _), ⟨fun _ => (flat_tup (fun _ => rfl) _), ⟨fun _ => rfl, trivial⟩⟩⟩) (fun w => rfl) ?_)
  intro X W h t
  obtain ⟨p_net, p_makes, p_barred⟩ := t
  have C := h.cf
  have hb_sorted : X.mg "sorted" = none := by rw [h.mg]; exact E.b_sorted
  have hb_set : X.mg "set" = none := by rw [h.mg]; exact E.b_set
  have c_m_p_bits_of := (ok_p_bits_of (P := P) (w := w) (base := base) E).cP h (by decide)
  have c_m_p_some_of_2 := (ok_p_some_of_2 (P := P) (w := w) (base := base) E).cP h (by decide)
  have c_m_p_evenest := (ok_p_evenest (P := P) (w := w) (base := base) E).cP h (by decide)
  have n0 : (["net", "makes", "barred"] : List Str)[0]? = some ("net" : Str) := rfl
  have v0 : visB (defScope (top 10)) "net" = true := by decide +kernel
  have s0 : Sto X (defScope (top 10)) "net" := sto_c h.fn (by decide +kernel)
  have n1 : (["net", "makes", "barred"] : List Str)[1]? = some ("makes" : Str) := rfl
  have v1 : visB (defScope (top 10)) "makes" = true := by decide +kernel
  have s1 : Sto X (defScope (top 10)) "makes" := sto_c h.fn (by decide +kernel)
  have n2 : (["net", "makes", "barred"] : List Str)[2]? = some ("barred" : Str) := rfl
  have v2 : visB (defScope (top 10)) "barred" = true := by decide +kernel
  have s2 : Sto X (defScope (top 10)) "barred" := sto_c h.fn (by decide +kernel)
  show Ex X W _ _ (m_p_halving_make_2 p_net p_makes p_barred) _ _ _
  unfold m_p_halving_make_2
  exact (asΓ [.dat true (PyData.tuple (List.map (fun xs : (List Int) => PyData.tuple (List.map PyData.int xs)) p_net)), .dat true (PyData.tuple (List.map PyData.int p_makes)), .dat true PyData.none] (ex_ret (ev_call C c_m_p_evenest (by decide +kernel) (eva_cons (as := fun z1141 : ((List Int) × (List Int) × (List Int)) => [.d true (PyData.list (List.map PyData.int z1141.1)), .d true (PyData.list (List.map PyData.int z1141.2.1)), .d true (PyData.list (List.map PyData.int z1141.2.2))]) (Γk := fun z1141 : ((List Int) × (List Int) × (List Int)) => [.dat true (PyData.tuple (List.map (fun xs : (List Int) => PyData.tuple (List.map PyData.int xs)) p_net)), .dat true (PyData.tuple (List.map PyData.int p_makes)), .dat true PyData.none]) (fun x1132 y1140 => (x1132, y1140.1, y1140.2)) (EvF.ev (evf_callP C c_m_p_bits_of (by decide +kernel) (evap_cons (evp_var C rfl n0 v0) eva_nil) (fun _ _ => .nil) p_net (.d .nil) rfl (fun r : (List Int) => (List.map PyData.int r)))) (fun x1132 => (eva_cons (as := fun z1139 : ((List Int) × (List Int)) => [.d true (PyData.list (List.map PyData.int z1139.1)), .d true (PyData.list (List.map PyData.int z1139.2))]) (Γk := fun z1139 : ((List Int) × (List Int)) => [.dat true (PyData.tuple (List.map (fun xs : (List Int) => PyData.tuple (List.map PyData.int xs)) p_net)), .dat true (PyData.tuple (List.map PyData.int p_makes)), .dat true PyData.none]) (fun x1134 y1138 => ((setI x1134), y1138)) (EvF.ev (evf_ssetT (ns := fun r1133 : (List Int) => r1133) C (by decide +kernel) hb_sorted (by decide +kernel) hb_set (EvP.to (evp_var C rfl n1 v1) p_makes (fun xs : (List Int) => PyData.tuple (List.map PyData.int xs))))) (fun x1134 => (eva_cons (as := fun z1137 : (List Int) => [.d true (PyData.list (List.map PyData.int z1137))]) (Γk := fun z1137 : (List Int) => [.dat true (PyData.tuple (List.map (fun xs : (List Int) => PyData.tuple (List.map PyData.int xs)) p_net)), .dat true (PyData.tuple (List.map PyData.int p_makes)), .dat true PyData.none]) (fun x1135 y1136 => x1135) (EvF.ev (evf_callP C c_m_p_some_of_2 (by decide +kernel) (evap_cons (evp_var C rfl n2 v2) eva_nil) (fun _ _ => .nil) p_barred (.d .nil) rfl (fun r : (List Int) => (List.map PyData.int r)))) (fun x1135 => eva_nil)))))) (fun _ _ => .nil) (fun a1142 : ((List Int) × (List Int) × (List Int)) => (a1142.1, a1142.2.1, a1142.2.2)) (fun _ => ⟨_, (.d (.d (.d .nil))), rfl⟩) (fun a1142 r1143 => r1143) (fun z1144 : (Option Int) => (optD PyData.int z1144)) (fun z1144 : (Option Int) => [.dat true (PyData.tuple (List.map (fun xs : (List Int) => PyData.tuple (List.map PyData.int xs)) p_net)), .dat true (PyData.tuple (List.map PyData.int p_makes)), .dat true PyData.none])) (io := fun r1145 => []) (hio := fun r1145 => trivial)))

theorem ok_p_halving_make_2_d1 {P : Program} {w : World} {K : PySem.W.Frag} {mg : Str → Option Value} {base : Heap} (E : Env K mg) : Gv P w K mg base 4 "halving_make" [V.non] (spP K mg (fun t : ((List (List Int)) × (List Int) × Unit) => [(PyData.tuple (List.map (fun xs : (List Int) => PyData.tuple (List.map PyData.int xs)) t.1)), (PyData.tuple (List.map PyData.int t.2.1)), PyData.none]) (fun t => m_p_halving_make_2 t.1 t.2.1 t.2.2) (fun w : (Option Int) => Rs.d (optD PyData.int w))) := by
  obtain ⟨f, fd, F, hmg⟩ := E.d_p_halving_make
  obtain ⟨ds, hv, hb⟩ := F.binds1 (ps := ["net", "makes", "barred"]) 2 0 (by simp) rfl (fun T kV doc pm an cdv ct us its h1 h2 => match us, its, h1, h2 with | [_, _], [_], _, _ => ⟨_, rfl, rfl⟩)
  exact Gv.of F hmg (fo_p_halving_make_2 E F) hb hv

def m_p_halving_make_3 (p_net : (List (List Int))) (p_makes : (List Int)) (p_barred : Unit) : R (Option Int) :=
  (R.bind (R.bind (R.bind (m_p_bits_of p_net) fun (x1170 : (List Int)) => R.bind (R.bind (R.bind (R.val p_makes) fun (r1171 : (List Int)) => R.bind (R.req (lt64 r1171)) fun _ => R.val r1171) fun (x1172 : (List Int)) => R.bind (R.bind (m_p_some_of_2 p_barred) fun (x1173 : (List Int)) => R.bind (R.val ()) fun (y1174 : Unit) => R.val x1173) fun (y1176 : (List Int)) => R.val ((setI x1172), y1176)) fun (y1178 : ((List Int) × (List Int))) => R.val (x1170, y1178.1, y1178.2)) fun (a1180 : ((List Int) × (List Int) × (List Int))) => R.bind (m_p_evenest a1180.1 a1180.2.1 a1180.2.2) fun (r1181 : (Option Int)) => R.val r1181) fun (r1183 : (Option Int)) => (R.val r1183))
theorem fo_p_halving_make_3 {P : Program} {w : World} {K : PySem.W.Frag} {mg : Str → Option Value} {base : Heap} (E : Env K mg) {f : Addr} {fd : FuncData} (F : FunD K "halving_make" "halving_make" (defArgs (top 10)) (defBody (top 10)) (defScope (top 10)) [V.non] [] f fd) : FnOk P w K mg base (L2.CX P w) 4 f fd ["net", "makes", "barred"] (spP K mg (fun t : ((List (List Int)) × (List Int) × Unit) => [(PyData.tuple (List.map (fun xs : (List Int) => PyData.tuple (List.map PyData.int xs)) t.1)), (PyData.list (List.map PyData.int t.2.1)), PyData.none]) (fun t => m_p_halving_make_3 t.1 t.2.1 t.2.2) (fun w : (Option Int) => Rs.d (optD PyData.int w))) := by
  refine (fn_pure (N := ["net", "makes", "barred"]) (ps := ["net", "makes", "barred"]) F sc_p_halving_make (view := (fun w : (Option Int) => (Fl.ex w : Fl Empty (Option Int)))) (Γf := (fun z : Empty => z.elim)) (Xf := (fun w : (Option Int) => Xo.rt (optD PyData.int w) [])) [true, false, true] (fun _ => rfl) (by decide) (fun t => ⟨fun _ => (flat_tup (fun _ => (flat_tup (fun _ => rfl) _)) _), ⟨(fun q => nomatch q), ⟨fun _ => rfl, trivial⟩⟩⟩) (fun w => rfl) ?_)
  intro X W h t
  obtain ⟨p_net, p_makes, p_barred⟩ := t
  have C := h.cf
  have hb_sorted : X.mg "sorted" = none := by rw [h.mg]; exact E.b_sorted
  have hb_set : X.mg "set" = none := by rw [h.mg]; exact E.b_set
  have c_m_p_bits_of := (ok_p_bits_of (P := P) (w := w) (base := base) E).cP h (by decide)
  have c_m_p_some_of_2 := (ok_p_some_of_2 (P := P) (w := w) (base := base) E).cP h (by decide)
  have c_m_p_evenest := (ok_p_evenest (P := P) (w := w) (base := base) E).cP h (by decide)
  have n0 : (["net", "makes", "barred"] : List Str)[0]? = some ("net" : Str) := rfl
  have v0 : visB (defScope (top 10)) "net" = true := by decide +kernel
  have s0 : Sto X (defScope (top 10)) "net" := sto_c h.fn (by decide +kernel)
  have n1 : (["net", "makes", "barred"] : List Str)[1]? = some ("makes" : Str) := rfl
  have v1 : visB (defScope (top 10)) "makes" = true := by decide +kernel
  have s1 : Sto X (defScope (top 10)) "makes" := sto_c h.fn (by decide +kernel)
  have n2 : (["net", "makes", "barred"] : List Str)[2]? = some ("barred" : Str) := rfl
  have v2 : visB (defScope (top 10)) "barred" = true := by decide +kernel
  have s2 : Sto X (defScope (top 10)) "barred" := sto_c h.fn (by decide +kernel)
  show Ex X W _ _ (m_p_halving_make_3 p_net p_makes p_barred) _ _ _
  unfold m_p_halving_make_3
  exact (asΓ [.dat true (PyData.tuple (List.map (fun xs : (List Int) => PyData.tuple (List.map PyData.int xs)) p_net)), .dat false (PyData.list (List.map PyData.int p_makes)), .dat true PyData.none] (ex_ret (ev_call C c_m_p_evenest (by decide +kernel) (eva_cons (as := fun z1179 : ((List Int) × (List Int) × (List Int)) => [.d true (PyData.list (List.map PyData.int z1179.1)), .d true (PyData.list (List.map PyData.int z1179.2.1)), .d true (PyData.list (List.map PyData.int z1179.2.2))]) (Γk := fun z1179 : ((List Int) × (List Int) × (List Int)) => [.dat true (PyData.tuple (List.map (fun xs : (List Int) => PyData.tuple (List.map PyData.int xs)) p_net)), .dat false (PyData.list (List.map PyData.int p_makes)), .dat true PyData.none]) (fun x1170 y1178 => (x1170, y1178.1, y1178.2)) (EvF.ev (evf_callP C c_m_p_bits_of (by decide +kernel) (evap_cons (evp_var C rfl n0 v0) eva_nil) (fun _ _ => .nil) p_net (.d .nil) rfl (fun r : (List Int) => (List.map PyData.int r)))) (fun x1170 => (eva_cons (as := fun z1177 : ((List Int) × (List Int)) => [.d true (PyData.list (List.map PyData.int z1177.1)), .d true (PyData.list (List.map PyData.int z1177.2))]) (Γk := fun z1177 : ((List Int) × (List Int)) => [.dat true (PyData.tuple (List.map (fun xs : (List Int) => PyData.tuple (List.map PyData.int xs)) p_net)), .dat false (PyData.list (List.map PyData.int p_makes)), .dat true PyData.none]) (fun x1172 y1176 => ((setI x1172), y1176)) (EvF.ev (evf_sset (ns := fun r1171 : (List Int) => r1171) C (by decide +kernel) hb_sorted (by decide +kernel) hb_set (EvP.to (evp_var C rfl n1 v1) p_makes (fun xs : (List Int) => PyData.list (List.map PyData.int xs))))) (fun x1172 => (eva_cons (as := fun z1175 : (List Int) => [.d true (PyData.list (List.map PyData.int z1175))]) (Γk := fun z1175 : (List Int) => [.dat true (PyData.tuple (List.map (fun xs : (List Int) => PyData.tuple (List.map PyData.int xs)) p_net)), .dat false (PyData.list (List.map PyData.int p_makes)), .dat true PyData.none]) (fun x1173 y1174 => x1173) (EvF.ev (evf_callP C c_m_p_some_of_2 (by decide +kernel) (evap_cons (evp_var C rfl n2 v2) eva_nil) (fun _ _ => .nil) p_barred (.d .nil) rfl (fun r : (List Int) => (List.map PyData.int r)))) (fun x1173 => eva_nil)))))) (fun _ _ => .nil) (fun a1180 : ((List Int) × (List Int) × (List Int)) => (a1180.1, a1180.2.1, a1180.2.2)) (fun _ => ⟨_, (.d (.d (.d .nil))), rfl⟩) (fun a1180 r1181 => r1181) (fun z1182 : (Option Int) => (optD PyData.int z1182)) (fun z1182 : (Option Int) => [.dat true (PyData.tuple (List.map (fun xs : (List Int) => PyData.tuple (List.map PyData.int xs)) p_net)), .dat false (PyData.list (List.map PyData.int p_makes)), .dat true PyData.none])) (io := fun r1183 => []) (hio := fun r1183 => trivial)))

theorem ok_p_halving_make_3 {P : Program} {w : World} {K : PySem.W.Frag} {mg : Str → Option Value} {base : Heap} (E : Env K mg) : Gv P w K mg base 4 "halving_make" [] (spP K mg (fun t : ((List (List Int)) × (List Int) × Unit) => [(PyData.tuple (List.map (fun xs : (List Int) => PyData.tuple (List.map PyData.int xs)) t.1)), (PyData.list (List.map PyData.int t.2.1)), PyData.none]) (fun t => m_p_halving_make_3 t.1 t.2.1 t.2.2) (fun w : (Option Int) => Rs.d (optD PyData.int w))) := by
  obtain ⟨f, fd, F, hmg⟩ := E.d_p_halving_make
  obtain ⟨ds, hv, hb⟩ := F.binds1 (ps := ["net", "makes", "barred"]) 3 1 (by simp) rfl (fun T kV doc pm an cdv ct us its h1 h2 => match us, its, h1, h2 with | [_, _, _], [_], _, _ => ⟨_, rfl, rfl⟩)
  exact Gv.of F hmg (fo_p_halving_make_3 E F) hb hv

def m_p_some_of_3 (p_makes : (List Int)) : R (List Int) :=
  (if false = true then R.bad else (R.val p_makes))
theorem fo_p_some_of_3 {P : Program} {w : World} {K : PySem.W.Frag} {mg : Str → Option Value} {base : Heap} (E : Env K mg) {f : Addr} {fd : FuncData} (F : FunD K "some_of" "some_of" (defArgs (top 5)) (defBody (top 5)) (defScope (top 5)) [] [] f fd) : FnOk P w K mg base (L2.CX P w) 1 f fd ["makes"] (spP K mg (fun t : (List Int) => [(PyData.tuple (List.map PyData.int t))]) (fun t => m_p_some_of_3 t) (fun w : (List Int) => Rs.f (List.map PyData.int w))) := by
  refine (fn_pure (N := ["makes"]) (ps := ["makes"]) F sc_p_some_of (view := (fun w : (List Int) => (Fl.ex w : Fl Empty (List Int)))) (Γf := (fun z : Empty => z.elim)) (Xf := (fun w : (List Int) => Xo.rtF (List.map PyData.int w) [])) [true] (fun _ => rfl) (by decide) (fun t => ⟨fun _ => (flat_tup (fun _ => rfl) _), trivial⟩) (fun w => rfl) ?_)
  intro X W h t
  generalize t = p_makes
  have C := h.cf
  have hb_list : X.mg "list" = none := by rw [h.mg]; exact E.b_list
  have n0 : (["makes"] : List Str)[0]? = some ("makes" : Str) := rfl
  have v0 : visB (defScope (top 5)) "makes" = true := by decide +kernel
  have s0 : Sto X (defScope (top 5)) "makes" := sto_c h.fn (by decide +kernel)
  show Ex X W _ _ (m_p_some_of_3 p_makes) _ _ _
  unfold m_p_some_of_3
  exact (asΓ [.dat true (PyData.tuple (List.map PyData.int p_makes))] (ex_ifXP (viewA := (fun w : (List Int) => (Fl.ex w : Fl Empty (List Int)))) (EvP.tstC (evp_isN (evp_var C rfl n0 v0) evp_none)) ex_bad (asΓ [.dat true (PyData.tuple (List.map PyData.int p_makes))] (ex_retFP (evf_listT C hb_list (by decide +kernel) (evp_var C rfl n0 v0) (fun _ => flatA_map (fun _ => rfl) _)) [] trivial))))

theorem ok_p_some_of_3 {P : Program} {w : World} {K : PySem.W.Frag} {mg : Str → Option Value} {base : Heap} (E : Env K mg) : Gv P w K mg base 1 "some_of" [] (spP K mg (fun t : (List Int) => [(PyData.tuple (List.map PyData.int t))]) (fun t => m_p_some_of_3 t) (fun w : (List Int) => Rs.f (List.map PyData.int w))) := by
  obtain ⟨f, fd, F, hmg⟩ := E.d_p_some_of
  exact Gv.of F hmg (fo_p_some_of_3 E F) (F.bindsN fun _ _ _ _ _ _ us hl => match us, hl with | [_], _ => rfl) .nil

def m_p_halving_make_4 (p_net : (List (List Int))) (p_makes : (List Int)) (p_barred : (List Int)) : R (Option Int) :=
  (R.bind (R.bind (R.bind (m_p_bits_of p_net) fun (x1208 : (List Int)) => R.bind (R.bind (R.bind (R.val p_makes) fun (r1209 : (List Int)) => R.bind (R.req (lt64 r1209)) fun _ => R.val r1209) fun (x1210 : (List Int)) => R.bind (R.bind (m_p_some_of_3 p_barred) fun (x1211 : (List Int)) => R.bind (R.val ()) fun (y1212 : Unit) => R.val x1211) fun (y1214 : (List Int)) => R.val ((setI x1210), y1214)) fun (y1216 : ((List Int) × (List Int))) => R.val (x1208, y1216.1, y1216.2)) fun (a1218 : ((List Int) × (List Int) × (List Int))) => R.bind (m_p_evenest a1218.1 a1218.2.1 a1218.2.2) fun (r1219 : (Option Int)) => R.val r1219) fun (r1221 : (Option Int)) => (R.val r1221))
theorem fo_p_halving_make_4 {P : Program} {w : World} {K : PySem.W.Frag} {mg : Str → Option Value} {base : Heap} (E : Env K mg) {f : Addr} {fd : FuncData} (F : FunD K "halving_make" "halving_make" (defArgs (top 10)) (defBody (top 10)) (defScope (top 10)) [V.non] [] f fd) : FnOk P w K mg base (L2.CX P w) 4 f fd ["net", "makes", "barred"] (spP K mg (fun t : ((List (List Int)) × (List Int) × (List Int)) => [(PyData.tuple (List.map (fun xs : (List Int) => PyData.tuple (List.map PyData.int xs)) t.1)), (PyData.list (List.map PyData.int t.2.1)), (PyData.tuple (List.map PyData.int t.2.2))]) (fun t => m_p_halving_make_4 t.1 t.2.1 t.2.2) (fun w : (Option Int) => Rs.d (optD PyData.int w))) := by
  refine (fn_pure (N := ["net", "makes", "barred"]) (ps := ["net", "makes", "barred"]) F sc_p_halving_make (view := (fun w : (Option Int) => (Fl.ex w : Fl Empty (Option Int)))) (Γf := (fun z : Empty => z.elim)) (Xf := (fun w : (Option Int) => Xo.rt (optD PyData.int w) [])) [true, false, true] (fun _ => rfl) (by decide) (fun t => ⟨fun _ => (flat_tup (fun _ => (flat_tup (fun _ => rfl) _)) _), ⟨(fun q => nomatch q), ⟨fun _ => (flat_tup (fun _ => rfl) _), trivial⟩⟩⟩) (fun w => rfl) ?_)
  intro X W h t
  obtain ⟨p_net, p_makes, p_barred⟩ := t
  have C := h.cf
  have hb_sorted : X.mg "sorted" = none := by rw [h.mg]; exact E.b_sorted
  have hb_set : X.mg "set" = none := by rw [h.mg]; exact E.b_set
  have c_m_p_bits_of := (ok_p_bits_of (P := P) (w := w) (base := base) E).cP h (by decide)
  have c_m_p_some_of_3 := (ok_p_some_of_3 (P := P) (w := w) (base := base) E).cP h (by decide)
  have c_m_p_evenest := (ok_p_evenest (P := P) (w := w) (base := base) E).cP h (by decide)
  have n0 : (["net", "makes", "barred"] : List Str)[0]? = some ("net" : Str) := rfl
  have v0 : visB (defScope (top 10)) "net" = true := by decide +kernel
  have s0 : Sto X (defScope (top 10)) "net" := sto_c h.fn (by decide +kernel)
  have n1 : (["net", "makes", "barred"] : List Str)[1]? = some ("makes" : Str) := rfl
  have v1 : visB (defScope (top 10)) "makes" = true := by decide +kernel
  have s1 : Sto X (defScope (top 10)) "makes" := sto_c h.fn (by decide +kernel)
  have n2 : (["net", "makes", "barred"] : List Str)[2]? = some ("barred" : Str) := rfl
  have v2 : visB (defScope (top 10)) "barred" = true := by decide +kernel
  have s2 : Sto X (defScope (top 10)) "barred" := sto_c h.fn (by decide +kernel)
  show Ex X W _ _ (m_p_halving_make_4 p_net p_makes p_barred) _ _ _
  unfold m_p_halving_make_4
  exact (asΓ [.dat true (PyData.tuple (List.map (fun xs : (List Int) => PyData.tuple (List.map PyData.int xs)) p_net)), .dat false (PyData.list (List.map PyData.int p_makes)), .dat true (PyData.tuple (List.map PyData.int p_barred))] (ex_ret (ev_call C c_m_p_evenest (by decide +kernel) (eva_cons (as := fun z1217 : ((List Int) × (List Int) × (List Int)) => [.d true (PyData.list (List.map PyData.int z1217.1)), .d true (PyData.list (List.map PyData.int z1217.2.1)), .d true (PyData.list (List.map PyData.int z1217.2.2))]) (Γk := fun z1217 : ((List Int) × (List Int) × (List Int)) => [.dat true (PyData.tuple (List.map (fun xs : (List Int) => PyData.tuple (List.map PyData.int xs)) p_net)), .dat false (PyData.list (List.map PyData.int p_makes)), .dat true (PyData.tuple (List.map PyData.int p_barred))]) (fun x1208 y1216 => (x1208, y1216.1, y1216.2)) (EvF.ev (evf_callP C c_m_p_bits_of (by decide +kernel) (evap_cons (evp_var C rfl n0 v0) eva_nil) (fun _ _ => .nil) p_net (.d .nil) rfl (fun r : (List Int) => (List.map PyData.int r)))) (fun x1208 => (eva_cons (as := fun z1215 : ((List Int) × (List Int)) => [.d true (PyData.list (List.map PyData.int z1215.1)), .d true (PyData.list (List.map PyData.int z1215.2))]) (Γk := fun z1215 : ((List Int) × (List Int)) => [.dat true (PyData.tuple (List.map (fun xs : (List Int) => PyData.tuple (List.map PyData.int xs)) p_net)), .dat false (PyData.list (List.map PyData.int p_makes)), .dat true (PyData.tuple (List.map PyData.int p_barred))]) (fun x1210 y1214 => ((setI x1210), y1214)) (EvF.ev (evf_sset (ns := fun r1209 : (List Int) => r1209) C (by decide +kernel) hb_sorted (by decide +kernel) hb_set (EvP.to (evp_var C rfl n1 v1) p_makes (fun xs : (List Int) => PyData.list (List.map PyData.int xs))))) (fun x1210 => (eva_cons (as := fun z1213 : (List Int) => [.d true (PyData.list (List.map PyData.int z1213))]) (Γk := fun z1213 : (List Int) => [.dat true (PyData.tuple (List.map (fun xs : (List Int) => PyData.tuple (List.map PyData.int xs)) p_net)), .dat false (PyData.list (List.map PyData.int p_makes)), .dat true (PyData.tuple (List.map PyData.int p_barred))]) (fun x1211 y1212 => x1211) (EvF.ev (evf_callP C c_m_p_some_of_3 (by decide +kernel) (evap_cons (evp_var C rfl n2 v2) eva_nil) (fun _ _ => .nil) p_barred (.d .nil) rfl (fun r : (List Int) => (List.map PyData.int r)))) (fun x1211 => eva_nil)))))) (fun _ _ => .nil) (fun a1218 : ((List Int) × (List Int) × (List Int)) => (a1218.1, a1218.2.1, a1218.2.2)) (fun _ => ⟨_, (.d (.d (.d .nil))), rfl⟩) (fun a1218 r1219 => r1219) (fun z1220 : (Option Int) => (optD PyData.int z1220)) (fun z1220 : (Option Int) => [.dat true (PyData.tuple (List.map (fun xs : (List Int) => PyData.tuple (List.map PyData.int xs)) p_net)), .dat false (PyData.list (List.map PyData.int p_makes)), .dat true (PyData.tuple (List.map PyData.int p_barred))])) (io := fun r1221 => []) (hio := fun r1221 => trivial)))

theorem ok_p_halving_make_4_barred {P : Program} {w : World} {K : PySem.W.Frag} {mg : Str → Option Value} {base : Heap} (E : Env K mg) : GvK P w K mg base 4 "halving_make" 2 ["barred"] [] (spP K mg (fun t : ((List (List Int)) × (List Int) × (List Int)) => [(PyData.tuple (List.map (fun xs : (List Int) => PyData.tuple (List.map PyData.int xs)) t.1)), (PyData.list (List.map PyData.int t.2.1)), (PyData.tuple (List.map PyData.int t.2.2))]) (fun t => m_p_halving_make_4 t.1 t.2.1 t.2.2) (fun w : (Option Int) => Rs.d (optD PyData.int w))) := by
  obtain ⟨f, fd, F, hmg⟩ := E.d_p_halving_make
  obtain ⟨its, hb⟩ := kbinds1 (ps := ["net", "makes", "barred"]) F 2 1 ["barred"] (by simp) (fun T kV doc pm an cdv ct us its ws h1 h2 h3 => match us, its, ws, h1, h2, h3 with | [_, _], [_], [_], _, _, _ => ⟨_, rfl, rfl⟩)
  exact ⟨f, fd, _, its, fo_p_halving_make_4 E F, hmg, F.kp, hb⟩

def m_p_law (qscript : (List Int)) : R Bool :=
  (R.bind (R.req (decide (qscript.length ≤ 63))) fun _ => (R.bind (m_qrows (qscript, (0 : Int), (0 : Int))) fun (qrows_here1372 : ((List (List Int)) × Fd)) => (R.bind (m_p_net_of qrows_here1372.1) fun (qnet1373 : (List (List Int))) => (R.bind (m_qcomings qrows_here1372.1) fun (qcomings_here1374 : (List (List Bool))) => (R.bind (R.req (cRng 0 (5 : Int))) fun _ => (R.bind (loopV (fun w : (Fl Fd (Lx Fd Bool)) => w) (fun (s1498 : Fd) (x1376 : Int) => (R.bind (R.bind (R.bind (R.val ()) fun (x1502 : Unit) => R.bind (R.bind (R.val ((qrows_here1372.1.length : Nat) : Int)) fun (x1503 : Int) => R.bind (R.bind (R.bind (R.val (1 : Int)) fun (x1504 : Int) => R.bind (m_qtake s1498 (3 : Int)) fun (y1505 : (Int × Fd)) => R.val ((x1504 + y1505.1), y1505.2)) fun (x1507 : (Int × Fd)) => R.bind (R.val ()) fun (y1508 : Unit) => R.val (x1507.1, x1507.2)) fun (y1510 : (Int × Fd)) => R.val (x1503, y1510.1, y1510.2)) fun (y1512 : (Int × Int × Fd)) => R.val (y1512.1, y1512.2.1, y1512.2.2)) fun (a1514 : (Int × Int × Fd)) => R.bind (m_qsome a1514.2.2 a1514.1 a1514.2.1) fun (r1515 : ((List Int) × Fd)) => R.val (r1515.1, r1515.2)) fun (qmakes1517 : ((List Int) × Fd)) => (R.bind (if (decide (qmakes1517.1 = ([] : (List Int)))) = true then (R.bind (R.bind (m_qtake qmakes1517.2 ((qrows_here1372.1.length : Nat) : Int)) fun (x1524 : (Int × Fd)) => R.bind (R.val ()) fun (y1525 : Unit) => R.val (x1524.1, x1524.2)) fun (qmakes1528 : (Int × Fd)) => (R.val (qmakes1528.2, [qmakes1528.1]))) else (R.val (qmakes1517.2, qmakes1517.1))) fun (j1523 : (Fd × (List Int))) => (R.bind (R.bind (R.bind (R.val ()) fun (x1533 : Unit) => R.bind (R.bind (R.val ((qrows_here1372.1.length : Nat) : Int)) fun (x1534 : Int) => R.bind (R.bind (R.bind (R.val [(0 : Int), (2 : Int), (3 : Int), (4 : Int), (8 : Int), (1 : Int)]) fun (x1535 : (List Int)) => R.bind (m_qtake j1523.1 (6 : Int)) fun (y1536 : (Int × Fd)) => R.bind (R.ofO (atI x1535 y1536.1)) fun (w1537 : Int) => R.val (w1537, y1536.2)) fun (x1539 : (Int × Fd)) => R.bind (R.val ()) fun (y1540 : Unit) => R.val (x1539.1, x1539.2)) fun (y1542 : (Int × Fd)) => R.val (x1534, y1542.1, y1542.2)) fun (y1544 : (Int × Int × Fd)) => R.val (y1544.1, y1544.2.1, y1544.2.2)) fun (a1546 : (Int × Int × Fd)) => R.bind (m_qsome a1546.2.2 a1546.1 a1546.2.1) fun (r1547 : ((List Int) × Fd)) => R.val (r1547.1, r1547.2)) fun (qshut1549 : ((List Int) × Fd)) => (R.bind (R.val [j1523.2, qshut1549.1]) fun (qhanded1550 : (List (List Int))) => (R.bind (R.req (cRng 0 (2 : Int))) fun _ => (R.bind (loopV (fun w : (Fl Unit (Lx Unit Bool)) => w) (fun (s1571 : Unit) (x1552 : Int) => (R.bind (R.bind (R.bind (R.bind (R.ofO (atI qhanded1550 (0 : Int))) fun (x1606 : (List Int)) => (R.bind (R.ofO (atI qhanded1550 (1 : Int))) fun (x1608 : (List Int)) => (m_p_halving_make qnet1373 x1606 x1608))) fun (x1610 : (Option Int)) => R.bind (R.bind (m_qbest qcomings_here1374 j1523.2 qshut1549.1) fun (x1611 : (Option Int)) => R.bind (R.val ()) fun (y1612 : Unit) => R.val x1611) fun (y1614 : (Option Int)) => R.val (x1610, y1614)) fun (a1616 : ((Option Int) × (Option Int))) => R.bind (m_qis a1616.1 a1616.2) fun (r1617 : Bool) => R.val r1617) fun (b1619 : Bool) => if (!b1619) = true then R.bind (R.val (Lx.ex false)) (fun e => R.val ((fun e : (Lx Unit Bool) => (Fl.ex e : (Fl Unit (Lx Unit Bool)))) e)) else (R.val (Fl.nx ())))) (rng 0 (2 : Int)) ()) (contV (fun (s1571 : Unit) => (if (!(decide (qhanded1550 = [j1523.2, qshut1549.1]))) = true then R.bind (R.val (Lx.ex false)) (fun e => R.val ((fun e : (Lx Fd Bool) => (Fl.ex e : (Fl Fd (Lx Fd Bool)))) e)) else (R.bind (R.bind (R.bind (m_p_halving_make_2 qnet1373 j1523.2 ()) fun (x1572 : (Option Int)) => R.bind (R.bind (m_qbest qcomings_here1374 j1523.2 ([] : (List Int))) fun (x1573 : (Option Int)) => R.bind (R.val ()) fun (y1574 : Unit) => R.val x1573) fun (y1576 : (Option Int)) => R.val (x1572, y1576)) fun (a1578 : ((Option Int) × (Option Int))) => R.bind (m_qis a1578.1 a1578.2) fun (r1579 : Bool) => R.val r1579) fun (b1581 : Bool) => if (!b1581) = true then R.bind (R.val (Lx.ex false)) (fun e => R.val ((fun e : (Lx Fd Bool) => (Fl.ex e : (Fl Fd (Lx Fd Bool)))) e)) else (R.bind (R.bind (R.bind (m_p_halving_make_3 qnet1373 j1523.2 ()) fun (x1582 : (Option Int)) => R.bind (R.bind (m_qbest qcomings_here1374 j1523.2 ([] : (List Int))) fun (x1583 : (Option Int)) => R.bind (R.val ()) fun (y1584 : Unit) => R.val x1583) fun (y1586 : (Option Int)) => R.val (x1582, y1586)) fun (a1588 : ((Option Int) × (Option Int))) => R.bind (m_qis a1588.1 a1588.2) fun (r1589 : Bool) => R.val r1589) fun (b1591 : Bool) => if (!b1591) = true then R.bind (R.val (Lx.ex false)) (fun e => R.val ((fun e : (Lx Fd Bool) => (Fl.ex e : (Fl Fd (Lx Fd Bool)))) e)) else (R.bind (R.bind (R.bind (R.nox (m_p_halving_make_4 qnet1373 j1523.2 qshut1549.1)) fun (x1592 : (Option Int)) => R.bind (R.bind (m_qbest qcomings_here1374 j1523.2 qshut1549.1) fun (x1593 : (Option Int)) => R.bind (R.val ()) fun (y1594 : Unit) => R.val x1593) fun (y1596 : (Option Int)) => R.val (x1592, y1596)) fun (a1598 : ((Option Int) × (Option Int))) => R.bind (m_qis a1598.1 a1598.2) fun (r1599 : Bool) => R.val r1599) fun (b1601 : Bool) => if (!b1601) = true then R.bind (R.val (Lx.ex false)) (fun e => R.val ((fun e : (Lx Fd Bool) => (Fl.ex e : (Fl Fd (Lx Fd Bool)))) e)) else (R.val (Fl.nx qshut1549.2))))))) (fun e : Bool => (Fl.ex (Lx.ex e) : (Fl Fd (Lx Fd Bool)))))))))))) (rng 0 (5 : Int)) qrows_here1372.2) (contV (fun (s1498 : Fd) => (R.val true)) (fun e : Bool => e))))))))
theorem sc_p_law : FnScope ["_law_script", "_law_feed_here", "_law_rows_here", "_law_net", "_law_comings_here", "_law_turn", "_law_makes", "_law_shut", "_law_handed", "_law_again"] ["_law_script"] (defScope (top 24)) := ⟨rfl, rfl, rfl, by decide +kernel, rfl, by decide +kernel, by decide +kernel⟩
theorem ok_of_law {P : Program} {w : World} {K : PySem.W.Frag} {mg : Str → Option Value} {base : Heap} (E : Env K mg) {f : Addr} {fd : FuncData} (F : FunD K "law" "law" (defArgs (top 24)) (defBody (top 24)) (defScope (top 24)) [] [] f fd) : FnOk P w K mg base (L2.CX P w) 5 f fd ["_law_script"] (spP K mg (fun t : (List Int) => [(PyData.list (List.map PyData.int t))]) (fun t => m_p_law t) (fun w : Bool => Rs.d (PyData.bool w))) := by
  refine (fn_pure (N := ["_law_script", "_law_feed_here", "_law_rows_here", "_law_net", "_law_comings_here", "_law_turn", "_law_makes", "_law_shut", "_law_handed", "_law_again"]) (ps := ["_law_script"]) F sc_p_law (view := (fun w : Bool => (Fl.ex w : Fl Empty Bool))) (Γf := (fun z : Empty => z.elim)) (Xf := (fun w : Bool => Xo.rt (PyData.bool w) [])) [false] (fun _ => rfl) (by decide) (fun t => ⟨(fun q => nomatch q), trivial⟩) (fun w => rfl) ?_)
  intro X W h t
  generalize t = qscript
  have C := h.cf
  have hb_range : X.mg "range" = none := by rw [h.mg]; exact E.b_range
  have hb_len : X.mg "len" = none := by rw [h.mg]; exact E.b_len
  have hb_list : X.mg "list" = none := by rw [h.mg]; exact E.b_list
  have hb_tuple : X.mg "tuple" = none := by rw [h.mg]; exact E.b_tuple
  have c_m_qrows := (ok_qrows (P := P) (w := w) (base := base) E).cC h (by decide)
  have c_m_p_net_of := (ok_p_net_of (P := P) (w := w) (base := base) E).cP h (by decide)
  have c_m_qcomings := (ok_qcomings (P := P) (w := w) (base := base) E).cP h (by decide)
  have c_m_qtake := (ok_qtake (P := P) (w := w) (base := base) E).cC h (by decide)
  have c_m_qsome := (ok_qsome (P := P) (w := w) (base := base) E).cC h (by decide)
  have c_m_p_halving_make := (ok_p_halving_make (P := P) (w := w) (base := base) E).cP h (by decide)
  have c_m_qbest := (ok_qbest (P := P) (w := w) (base := base) E).cP h (by decide)
  have c_m_qis := (ok_qis (P := P) (w := w) (base := base) E).cP h (by decide)
  have c_m_p_halving_make_2_d1 := (ok_p_halving_make_2_d1 (P := P) (w := w) (base := base) E).cP h (by decide)
  have c_m_p_halving_make_3 := (ok_p_halving_make_3 (P := P) (w := w) (base := base) E).cP h (by decide)
  have c_m_p_halving_make_4_barred := (ok_p_halving_make_4_barred (P := P) (w := w) (base := base) E).cP h (by decide)
  have cfd_qfeed := (ok_qfeed (P := P) (w := w) (base := base) E).cFd h (by decide)
  have n0 : (["_law_script", "_law_feed_here", "_law_rows_here", "_law_net", "_law_comings_here", "_law_turn", "_law_makes", "_law_shut", "_law_handed", "_law_again"] : List Str)[0]? = some ("_law_script" : Str) := rfl
  have v0 : visB (defScope (top 24)) "_law_script" = true := by decide +kernel
  have s0 : Sto X (defScope (top 24)) "_law_script" := sto_c h.fn (by decide +kernel)
  have n1 : (["_law_script", "_law_feed_here", "_law_rows_here", "_law_net", "_law_comings_here", "_law_turn", "_law_makes", "_law_shut", "_law_handed", "_law_again"] : List Str)[1]? = some ("_law_feed_here" : Str) := rfl
  have v1 : visB (defScope (top 24)) "_law_feed_here" = true := by decide +kernel
  have s1 : Sto X (defScope (top 24)) "_law_feed_here" := sto_c h.fn (by decide +kernel)
  have n2 : (["_law_script", "_law_feed_here", "_law_rows_here", "_law_net", "_law_comings_here", "_law_turn", "_law_makes", "_law_shut", "_law_handed", "_law_again"] : List Str)[2]? = some ("_law_rows_here" : Str) := rfl
  have v2 : visB (defScope (top 24)) "_law_rows_here" = true := by decide +kernel
  have s2 : Sto X (defScope (top 24)) "_law_rows_here" := sto_c h.fn (by decide +kernel)
  have n3 : (["_law_script", "_law_feed_here", "_law_rows_here", "_law_net", "_law_comings_here", "_law_turn", "_law_makes", "_law_shut", "_law_handed", "_law_again"] : List Str)[3]? = some ("_law_net" : Str) := rfl
  have v3 : visB (defScope (top 24)) "_law_net" = true := by decide +kernel
  have s3 : Sto X (defScope (top 24)) "_law_net" := sto_c h.fn (by decide +kernel)
  have n4 : (["_law_script", "_law_feed_here", "_law_rows_here", "_law_net", "_law_comings_here", "_law_turn", "_law_makes", "_law_shut", "_law_handed", "_law_again"] : List Str)[4]? = some ("_law_comings_here" : Str) := rfl
  have v4 : visB (defScope (top 24)) "_law_comings_here" = true := by decide +kernel
  have s4 : Sto X (defScope (top 24)) "_law_comings_here" := sto_c h.fn (by decide +kernel)
  have n5 : (["_law_script", "_law_feed_here", "_law_rows_here", "_law_net", "_law_comings_here", "_law_turn", "_law_makes", "_law_shut", "_law_handed", "_law_again"] : List Str)[5]? = some ("_law_turn" : Str) := rfl
  have v5 : visB (defScope (top 24)) "_law_turn" = true := by decide +kernel
  have s5 : Sto X (defScope (top 24)) "_law_turn" := sto_c h.fn (by decide +kernel)
  have n6 : (["_law_script", "_law_feed_here", "_law_rows_here", "_law_net", "_law_comings_here", "_law_turn", "_law_makes", "_law_shut", "_law_handed", "_law_again"] : List Str)[6]? = some ("_law_makes" : Str) := rfl
  have v6 : visB (defScope (top 24)) "_law_makes" = true := by decide +kernel
  have s6 : Sto X (defScope (top 24)) "_law_makes" := sto_c h.fn (by decide +kernel)
  have n7 : (["_law_script", "_law_feed_here", "_law_rows_here", "_law_net", "_law_comings_here", "_law_turn", "_law_makes", "_law_shut", "_law_handed", "_law_again"] : List Str)[7]? = some ("_law_shut" : Str) := rfl
  have v7 : visB (defScope (top 24)) "_law_shut" = true := by decide +kernel
  have s7 : Sto X (defScope (top 24)) "_law_shut" := sto_c h.fn (by decide +kernel)
  have n8 : (["_law_script", "_law_feed_here", "_law_rows_here", "_law_net", "_law_comings_here", "_law_turn", "_law_makes", "_law_shut", "_law_handed", "_law_again"] : List Str)[8]? = some ("_law_handed" : Str) := rfl
  have v8 : visB (defScope (top 24)) "_law_handed" = true := by decide +kernel
  have s8 : Sto X (defScope (top 24)) "_law_handed" := sto_c h.fn (by decide +kernel)
  have n9 : (["_law_script", "_law_feed_here", "_law_rows_here", "_law_net", "_law_comings_here", "_law_turn", "_law_makes", "_law_shut", "_law_handed", "_law_again"] : List Str)[9]? = some ("_law_again" : Str) := rfl
  have v9 : visB (defScope (top 24)) "_law_again" = true := by decide +kernel
  have s9 : Sto X (defScope (top 24)) "_law_again" := sto_c h.fn (by decide +kernel)
  show Ex X W _ _ (m_p_law qscript) _ _ _
  unfold m_p_law
  exact (asΓ [.dat false (PyData.list (List.map PyData.int qscript)), .un, .un, .un, .un, .un, .un, .un, .un, .un] (ex_setFd C 1 cfd_qfeed (by decide +kernel) n1 s1 (evp_var C rfl n0 v0) .d (asΓ [.dat false (PyData.list (List.map PyData.int qscript)), .own (.abs (feedA (qscript, (0 : Int), (0 : Int)))), .un, .un, .un, .un, .un, .un, .un, .un] (ex_set (enc := fun qrows_here1372 : ((List (List Int)) × Fd) => (PyData.list (List.map (fun xs : (List Int) => PyData.list (List.map PyData.int xs)) qrows_here1372.1))) (Γ1 := fun qrows_here1372 : ((List (List Int)) × Fd) => [.dat false (PyData.list (List.map PyData.int qscript)), .own (.abs (feedA qrows_here1372.2)), .un, .un, .un, .un, .un, .un, .un, .un]) C 2 n2 s2 (EvF.ev (evf_callCP (as1 := []) (as2 := []) C c_m_qrows (fun _ _ => rfl) (by decide +kernel) 1 false (evap_cons (evp_slot C (.inl rfl) n1 v1) eva_nil) (fun _ _ => .nil) (qscript, (0 : Int), (0 : Int)) rfl .nil .nil rfl (fun r : ((List (List Int)) × Fd) => (List.map (fun xs : (List Int) => PyData.list (List.map PyData.int xs)) r.1)) (fun r : ((List (List Int)) × Fd) => [.dat false (PyData.list (List.map PyData.int qscript)), .own (.abs (feedA r.2)), .un, .un, .un, .un, .un, .un, .un, .un]) (fun t z => nox_m_qrows _ z))) fun qrows_here1372 => (asΓ [.dat false (PyData.list (List.map PyData.int qscript)), .own (.abs (feedA qrows_here1372.2)), .dat true (PyData.list (List.map (fun xs : (List Int) => PyData.list (List.map PyData.int xs)) qrows_here1372.1)), .un, .un, .un, .un, .un, .un, .un] (ex_set (enc := fun qnet1373 : (List (List Int)) => (PyData.tuple (List.map (fun xs : (List Int) => PyData.tuple (List.map PyData.int xs)) qnet1373))) (Γ1 := fun qnet1373 : (List (List Int)) => [.dat false (PyData.list (List.map PyData.int qscript)), .own (.abs (feedA qrows_here1372.2)), .dat true (PyData.list (List.map (fun xs : (List Int) => PyData.list (List.map PyData.int xs)) qrows_here1372.1)), .un, .un, .un, .un, .un, .un, .un]) C 3 n3 s3 (ev_callP C c_m_p_net_of (by decide +kernel) (evap_cons (evp_var C rfl n2 v2) eva_nil) (fun _ _ => .nil) qrows_here1372.1 (.d .nil) rfl (fun r : (List (List Int)) => (PyData.tuple (List.map (fun xs : (List Int) => PyData.tuple (List.map PyData.int xs)) r)))) fun qnet1373 => (asΓ [.dat false (PyData.list (List.map PyData.int qscript)), .own (.abs (feedA qrows_here1372.2)), .dat true (PyData.list (List.map (fun xs : (List Int) => PyData.list (List.map PyData.int xs)) qrows_here1372.1)), .dat true (PyData.tuple (List.map (fun xs : (List Int) => PyData.tuple (List.map PyData.int xs)) qnet1373)), .un, .un, .un, .un, .un, .un] (ex_set (enc := fun qcomings_here1374 : (List (List Bool)) => (PyData.list (List.map (fun xs : (List Bool) => PyData.list (List.map PyData.bool xs)) qcomings_here1374))) (Γ1 := fun qcomings_here1374 : (List (List Bool)) => [.dat false (PyData.list (List.map PyData.int qscript)), .own (.abs (feedA qrows_here1372.2)), .dat true (PyData.list (List.map (fun xs : (List Int) => PyData.list (List.map PyData.int xs)) qrows_here1372.1)), .dat true (PyData.tuple (List.map (fun xs : (List Int) => PyData.tuple (List.map PyData.int xs)) qnet1373)), .un, .un, .un, .un, .un, .un]) C 4 n4 s4 (EvF.ev (evf_callP C c_m_qcomings (by decide +kernel) (evap_cons (evp_var C rfl n2 v2) eva_nil) (fun _ _ => .nil) qrows_here1372.1 (.d .nil) rfl (fun r : (List (List Bool)) => (List.map (fun xs : (List Bool) => PyData.list (List.map PyData.bool xs)) r)))) fun qcomings_here1374 => (asΓ [.dat false (PyData.list (List.map PyData.int qscript)), .own (.abs (feedA qrows_here1372.2)), .dat true (PyData.list (List.map (fun xs : (List Int) => PyData.list (List.map PyData.int xs)) qrows_here1372.1)), .dat true (PyData.tuple (List.map (fun xs : (List Int) => PyData.tuple (List.map PyData.int xs)) qnet1373)), .dat true (PyData.list (List.map (fun xs : (List Bool) => PyData.list (List.map PyData.bool xs)) qcomings_here1374)), .un, .un, .un, .un, .un] (ex_req fun h1375 => (ex_forP (Γs := (fun s1498 : Fd => [.dat false (PyData.list (List.map PyData.int qscript)), .own (.abs (feedA s1498)), .dat true (PyData.list (List.map (fun xs : (List Int) => PyData.list (List.map PyData.int xs)) qrows_here1372.1)), .dat true (PyData.tuple (List.map (fun xs : (List Int) => PyData.tuple (List.map PyData.int xs)) qnet1373)), .dat true (PyData.list (List.map (fun xs : (List Bool) => PyData.list (List.map PyData.bool xs)) qcomings_here1374)), .un, .un, .un, .un, .un])) (Xr := (fun w : Bool => Xo.rt (PyData.bool w) [])) C [] (evip_range1 C hb_range (by decide +kernel) h1375 evp_int) (tg_name (fr := true) (enc := PyData.int) C 5 n5 s5) rfl (fun s1498 x1376 => (asΓ [.dat false (PyData.list (List.map PyData.int qscript)), .own (.abs (feedA s1498)), .dat true (PyData.list (List.map (fun xs : (List Int) => PyData.list (List.map PyData.int xs)) qrows_here1372.1)), .dat true (PyData.tuple (List.map (fun xs : (List Int) => PyData.tuple (List.map PyData.int xs)) qnet1373)), .dat true (PyData.list (List.map (fun xs : (List Bool) => PyData.list (List.map PyData.bool xs)) qcomings_here1374)), .dat true (PyData.int x1376), .un, .un, .un, .un] (ex_set (enc := fun qmakes1517 : ((List Int) × Fd) => (PyData.list (List.map PyData.int qmakes1517.1))) (Γ1 := fun qmakes1517 : ((List Int) × Fd) => [.dat false (PyData.list (List.map PyData.int qscript)), .own (.abs (feedA qmakes1517.2)), .dat true (PyData.list (List.map (fun xs : (List Int) => PyData.list (List.map PyData.int xs)) qrows_here1372.1)), .dat true (PyData.tuple (List.map (fun xs : (List Int) => PyData.tuple (List.map PyData.int xs)) qnet1373)), .dat true (PyData.list (List.map (fun xs : (List Bool) => PyData.list (List.map PyData.bool xs)) qcomings_here1374)), .dat true (PyData.int x1376), .un, .un, .un, .un]) C 6 n6 s6 (EvF.ev (evf_callCM C c_m_qsome (fun _ _ => rfl) (by decide +kernel) 1 false (eva_cons (as := fun z1513 : (Int × Int × Fd) => [.s 1, .d true (PyData.int z1513.1), .d true (PyData.int z1513.2.1)]) (Γk := fun z1513 : (Int × Int × Fd) => [.dat false (PyData.list (List.map PyData.int qscript)), .own (.abs (feedA z1513.2.2)), .dat true (PyData.list (List.map (fun xs : (List Int) => PyData.list (List.map PyData.int xs)) qrows_here1372.1)), .dat true (PyData.tuple (List.map (fun xs : (List Int) => PyData.tuple (List.map PyData.int xs)) qnet1373)), .dat true (PyData.list (List.map (fun xs : (List Bool) => PyData.list (List.map PyData.bool xs)) qcomings_here1374)), .dat true (PyData.int x1376), .un, .un, .un, .un]) (fun x1502 y1512 => (y1512.1, y1512.2.1, y1512.2.2)) (evp_slot C (.inl rfl) n1 v1) (fun x1502 => (eva_cons (as := fun z1511 : (Int × Int × Fd) => [.d true (PyData.int z1511.1), .d true (PyData.int z1511.2.1)]) (Γk := fun z1511 : (Int × Int × Fd) => [.dat false (PyData.list (List.map PyData.int qscript)), .own (.abs (feedA z1511.2.2)), .dat true (PyData.list (List.map (fun xs : (List Int) => PyData.list (List.map PyData.int xs)) qrows_here1372.1)), .dat true (PyData.tuple (List.map (fun xs : (List Int) => PyData.tuple (List.map PyData.int xs)) qnet1373)), .dat true (PyData.list (List.map (fun xs : (List Bool) => PyData.list (List.map PyData.bool xs)) qcomings_here1374)), .dat true (PyData.int x1376), .un, .un, .un, .un]) (fun x1503 y1510 => (x1503, y1510.1, y1510.2)) (EvP.to (evp_lenL (enc := (fun xs : (List Int) => PyData.list (List.map PyData.int xs))) (xs := qrows_here1372.1) C hb_len (by decide +kernel) (evp_var C rfl n2 v2) .d) ((qrows_here1372.1.length : Nat) : Int) PyData.int) (fun x1503 => (eva_cons (as := fun z1509 : (Int × Fd) => [.d true (PyData.int z1509.1)]) (Γk := fun z1509 : (Int × Fd) => [.dat false (PyData.list (List.map PyData.int qscript)), .own (.abs (feedA z1509.2)), .dat true (PyData.list (List.map (fun xs : (List Int) => PyData.list (List.map PyData.int xs)) qrows_here1372.1)), .dat true (PyData.tuple (List.map (fun xs : (List Int) => PyData.tuple (List.map PyData.int xs)) qnet1373)), .dat true (PyData.list (List.map (fun xs : (List Bool) => PyData.list (List.map PyData.bool xs)) qcomings_here1374)), .dat true (PyData.int x1376), .un, .un, .un, .un]) (fun x1507 y1508 => (x1507.1, x1507.2)) (ev_ar  op_add  (EvP.to evp_int (1 : Int) PyData.int) (fun x1504 => (ev_callCP (as1 := []) (as2 := [.d true (PyData.int (3 : Int))]) C c_m_qtake (fun _ _ => rfl) (by decide +kernel) 1 false (evap_cons (evp_slot C (.inl rfl) n1 v1) (evap_cons evp_int eva_nil)) (fun _ _ => .nil) (s1498, (3 : Int)) rfl .nil (.d .nil) rfl (fun r : (Int × Fd) => (PyData.int r.1)) (fun r : (Int × Fd) => [.dat false (PyData.list (List.map PyData.int qscript)), .own (.abs (feedA r.2)), .dat true (PyData.list (List.map (fun xs : (List Int) => PyData.list (List.map PyData.int xs)) qrows_here1372.1)), .dat true (PyData.tuple (List.map (fun xs : (List Int) => PyData.tuple (List.map PyData.int xs)) qnet1373)), .dat true (PyData.list (List.map (fun xs : (List Bool) => PyData.list (List.map PyData.bool xs)) qcomings_here1374)), .dat true (PyData.int x1376), .un, .un, .un, .un]) (fun t z => nox_m_qtake _ _ z))) (fun x1504 y1505 => ((x1504 + y1505.1), y1505.2)) (fun z1506 : (Int × Fd) => z1506.1) (Γk := fun z1506 : (Int × Fd) => [.dat false (PyData.list (List.map PyData.int qscript)), .own (.abs (feedA z1506.2)), .dat true (PyData.list (List.map (fun xs : (List Int) => PyData.list (List.map PyData.int xs)) qrows_here1372.1)), .dat true (PyData.tuple (List.map (fun xs : (List Int) => PyData.tuple (List.map PyData.int xs)) qnet1373)), .dat true (PyData.list (List.map (fun xs : (List Bool) => PyData.list (List.map PyData.bool xs)) qcomings_here1374)), .dat true (PyData.int x1376), .un, .un, .un, .un])) (fun x1507 => eva_nil)))))) (fun _ _ => .nil) (fun a1514 : (Int × Int × Fd) => (a1514.2.2, a1514.1, a1514.2.1)) (fun a1514 : (Int × Int × Fd) => []) (fun a1514 : (Int × Int × Fd) => [.d true (PyData.int a1514.1), .d true (PyData.int a1514.2.1)]) (fun _ => rfl) (fun _ => rfl) (fun _ => .nil) (fun _ => ⟨_, (.d (.d .nil)), rfl⟩) (fun a1514 r1515 => (r1515.1, r1515.2)) (fun z1516 : ((List Int) × Fd) => (List.map PyData.int z1516.1)) (fun z1516 : ((List Int) × Fd) => [.dat false (PyData.list (List.map PyData.int qscript)), .own (.abs (feedA z1516.2)), .dat true (PyData.list (List.map (fun xs : (List Int) => PyData.list (List.map PyData.int xs)) qrows_here1372.1)), .dat true (PyData.tuple (List.map (fun xs : (List Int) => PyData.tuple (List.map PyData.int xs)) qnet1373)), .dat true (PyData.list (List.map (fun xs : (List Bool) => PyData.list (List.map PyData.bool xs)) qcomings_here1374)), .dat true (PyData.int x1376), .un, .un, .un, .un]) (fun t z => nox_m_qsome _ _ _ z))) fun qmakes1517 => (asΓ [.dat false (PyData.list (List.map PyData.int qscript)), .own (.abs (feedA qmakes1517.2)), .dat true (PyData.list (List.map (fun xs : (List Int) => PyData.list (List.map PyData.int xs)) qrows_here1372.1)), .dat true (PyData.tuple (List.map (fun xs : (List Int) => PyData.tuple (List.map PyData.int xs)) qnet1373)), .dat true (PyData.list (List.map (fun xs : (List Bool) => PyData.list (List.map PyData.bool xs)) qcomings_here1374)), .dat true (PyData.int x1376), .dat true (PyData.list (List.map PyData.int qmakes1517.1)), .un, .un, .un] (ex_ifSP (Γj := (fun j1523 : (Fd × (List Int)) => [.dat false (PyData.list (List.map PyData.int qscript)), .own (.abs (feedA j1523.1)), .dat true (PyData.list (List.map (fun xs : (List Int) => PyData.list (List.map PyData.int xs)) qrows_here1372.1)), .dat true (PyData.tuple (List.map (fun xs : (List Int) => PyData.tuple (List.map PyData.int xs)) qnet1373)), .dat true (PyData.list (List.map (fun xs : (List Bool) => PyData.list (List.map PyData.bool xs)) qcomings_here1374)), .dat true (PyData.int x1376), .dat true (PyData.list (List.map PyData.int j1523.2)), .un, .un, .un])) (EvP.tstC (evp_eqT C (eqt_list eqt_int) (x := qmakes1517.1) (y := ([] : (List Int))) (evp_var C rfl n6 v6) (EvF.ev (evfp_lst eva_nil .nil rfl)) .d .d)) (asΓ [.dat false (PyData.list (List.map PyData.int qscript)), .own (.abs (feedA qmakes1517.2)), .dat true (PyData.list (List.map (fun xs : (List Int) => PyData.list (List.map PyData.int xs)) qrows_here1372.1)), .dat true (PyData.tuple (List.map (fun xs : (List Int) => PyData.tuple (List.map PyData.int xs)) qnet1373)), .dat true (PyData.list (List.map (fun xs : (List Bool) => PyData.list (List.map PyData.bool xs)) qcomings_here1374)), .dat true (PyData.int x1376), .dat true (PyData.list (List.map PyData.int qmakes1517.1)), .un, .un, .un] (ex_set (enc := fun qmakes1528 : (Int × Fd) => (PyData.list (List.map PyData.int [qmakes1528.1]))) (Γ1 := fun qmakes1528 : (Int × Fd) => [.dat false (PyData.list (List.map PyData.int qscript)), .own (.abs (feedA qmakes1528.2)), .dat true (PyData.list (List.map (fun xs : (List Int) => PyData.list (List.map PyData.int xs)) qrows_here1372.1)), .dat true (PyData.tuple (List.map (fun xs : (List Int) => PyData.tuple (List.map PyData.int xs)) qnet1373)), .dat true (PyData.list (List.map (fun xs : (List Bool) => PyData.list (List.map PyData.bool xs)) qcomings_here1374)), .dat true (PyData.int x1376), .dat true (PyData.list (List.map PyData.int qmakes1517.1)), .un, .un, .un]) C 6 n6 s6 (EvF.ev (evf_lst (ds := fun r1527 : (Int × Fd) => [(PyData.int r1527.1)]) (eva_cons (as := fun z1526 : (Int × Fd) => [.d true (PyData.int z1526.1)]) (Γk := fun z1526 : (Int × Fd) => [.dat false (PyData.list (List.map PyData.int qscript)), .own (.abs (feedA z1526.2)), .dat true (PyData.list (List.map (fun xs : (List Int) => PyData.list (List.map PyData.int xs)) qrows_here1372.1)), .dat true (PyData.tuple (List.map (fun xs : (List Int) => PyData.tuple (List.map PyData.int xs)) qnet1373)), .dat true (PyData.list (List.map (fun xs : (List Bool) => PyData.list (List.map PyData.bool xs)) qcomings_here1374)), .dat true (PyData.int x1376), .dat true (PyData.list (List.map PyData.int qmakes1517.1)), .un, .un, .un]) (fun x1524 y1525 => (x1524.1, x1524.2)) (ev_callCP (as1 := []) (as2 := [.d true (PyData.int ((qrows_here1372.1.length : Nat) : Int))]) C c_m_qtake (fun _ _ => rfl) (by decide +kernel) 1 false (evap_cons (evp_slot C (.inl rfl) n1 v1) (evap_cons (evp_lenL (enc := (fun xs : (List Int) => PyData.list (List.map PyData.int xs))) (xs := qrows_here1372.1) C hb_len (by decide +kernel) (evp_var C rfl n2 v2) .d) eva_nil)) (fun _ _ => .nil) (qmakes1517.2, ((qrows_here1372.1.length : Nat) : Int)) rfl .nil (.d .nil) rfl (fun r : (Int × Fd) => (PyData.int r.1)) (fun r : (Int × Fd) => [.dat false (PyData.list (List.map PyData.int qscript)), .own (.abs (feedA r.2)), .dat true (PyData.list (List.map (fun xs : (List Int) => PyData.list (List.map PyData.int xs)) qrows_here1372.1)), .dat true (PyData.tuple (List.map (fun xs : (List Int) => PyData.tuple (List.map PyData.int xs)) qnet1373)), .dat true (PyData.list (List.map (fun xs : (List Bool) => PyData.list (List.map PyData.bool xs)) qcomings_here1374)), .dat true (PyData.int x1376), .dat true (PyData.list (List.map PyData.int qmakes1517.1)), .un, .un, .un]) (fun t z => nox_m_qtake _ _ z)) (fun x1524 => eva_nil)) (fun _ => (.cons (.inl rfl) .nil)) (fun _ => rfl))) fun qmakes1528 => (ex_nil [] rfl rfl))) (ex_nil [] rfl rfl) (fun j1523 => (asΓ [.dat false (PyData.list (List.map PyData.int qscript)), .own (.abs (feedA j1523.1)), .dat true (PyData.list (List.map (fun xs : (List Int) => PyData.list (List.map PyData.int xs)) qrows_here1372.1)), .dat true (PyData.tuple (List.map (fun xs : (List Int) => PyData.tuple (List.map PyData.int xs)) qnet1373)), .dat true (PyData.list (List.map (fun xs : (List Bool) => PyData.list (List.map PyData.bool xs)) qcomings_here1374)), .dat true (PyData.int x1376), .dat true (PyData.list (List.map PyData.int j1523.2)), .un, .un, .un] (ex_set (enc := fun qshut1549 : ((List Int) × Fd) => (PyData.list (List.map PyData.int qshut1549.1))) (Γ1 := fun qshut1549 : ((List Int) × Fd) => [.dat false (PyData.list (List.map PyData.int qscript)), .own (.abs (feedA qshut1549.2)), .dat true (PyData.list (List.map (fun xs : (List Int) => PyData.list (List.map PyData.int xs)) qrows_here1372.1)), .dat true (PyData.tuple (List.map (fun xs : (List Int) => PyData.tuple (List.map PyData.int xs)) qnet1373)), .dat true (PyData.list (List.map (fun xs : (List Bool) => PyData.list (List.map PyData.bool xs)) qcomings_here1374)), .dat true (PyData.int x1376), .dat true (PyData.list (List.map PyData.int j1523.2)), .un, .un, .un]) C 7 n7 s7 (EvF.ev (evf_callCM C c_m_qsome (fun _ _ => rfl) (by decide +kernel) 1 false (eva_cons (as := fun z1545 : (Int × Int × Fd) => [.s 1, .d true (PyData.int z1545.1), .d true (PyData.int z1545.2.1)]) (Γk := fun z1545 : (Int × Int × Fd) => [.dat false (PyData.list (List.map PyData.int qscript)), .own (.abs (feedA z1545.2.2)), .dat true (PyData.list (List.map (fun xs : (List Int) => PyData.list (List.map PyData.int xs)) qrows_here1372.1)), .dat true (PyData.tuple (List.map (fun xs : (List Int) => PyData.tuple (List.map PyData.int xs)) qnet1373)), .dat true (PyData.list (List.map (fun xs : (List Bool) => PyData.list (List.map PyData.bool xs)) qcomings_here1374)), .dat true (PyData.int x1376), .dat true (PyData.list (List.map PyData.int j1523.2)), .un, .un, .un]) (fun x1533 y1544 => (y1544.1, y1544.2.1, y1544.2.2)) (evp_slot C (.inl rfl) n1 v1) (fun x1533 => (eva_cons (as := fun z1543 : (Int × Int × Fd) => [.d true (PyData.int z1543.1), .d true (PyData.int z1543.2.1)]) (Γk := fun z1543 : (Int × Int × Fd) => [.dat false (PyData.list (List.map PyData.int qscript)), .own (.abs (feedA z1543.2.2)), .dat true (PyData.list (List.map (fun xs : (List Int) => PyData.list (List.map PyData.int xs)) qrows_here1372.1)), .dat true (PyData.tuple (List.map (fun xs : (List Int) => PyData.tuple (List.map PyData.int xs)) qnet1373)), .dat true (PyData.list (List.map (fun xs : (List Bool) => PyData.list (List.map PyData.bool xs)) qcomings_here1374)), .dat true (PyData.int x1376), .dat true (PyData.list (List.map PyData.int j1523.2)), .un, .un, .un]) (fun x1534 y1542 => (x1534, y1542.1, y1542.2)) (EvP.to (evp_lenL (enc := (fun xs : (List Int) => PyData.list (List.map PyData.int xs))) (xs := qrows_here1372.1) C hb_len (by decide +kernel) (evp_var C rfl n2 v2) .d) ((qrows_here1372.1.length : Nat) : Int) PyData.int) (fun x1534 => (eva_cons (as := fun z1541 : (Int × Fd) => [.d true (PyData.int z1541.1)]) (Γk := fun z1541 : (Int × Fd) => [.dat false (PyData.list (List.map PyData.int qscript)), .own (.abs (feedA z1541.2)), .dat true (PyData.list (List.map (fun xs : (List Int) => PyData.list (List.map PyData.int xs)) qrows_here1372.1)), .dat true (PyData.tuple (List.map (fun xs : (List Int) => PyData.tuple (List.map PyData.int xs)) qnet1373)), .dat true (PyData.list (List.map (fun xs : (List Bool) => PyData.list (List.map PyData.bool xs)) qcomings_here1374)), .dat true (PyData.int x1376), .dat true (PyData.list (List.map PyData.int j1523.2)), .un, .un, .un]) (fun x1539 y1540 => (x1539.1, x1539.2)) (ev_ixM (enc := PyData.int) (xs := fun x1535 : (List Int) => x1535) (n := fun (x1535 : (List Int)) (y1536 : (Int × Fd)) => y1536.1) (Γk := fun z1538 : (Int × Fd) => [.dat false (PyData.list (List.map PyData.int qscript)), .own (.abs (feedA z1538.2)), .dat true (PyData.list (List.map (fun xs : (List Int) => PyData.list (List.map PyData.int xs)) qrows_here1372.1)), .dat true (PyData.tuple (List.map (fun xs : (List Int) => PyData.tuple (List.map PyData.int xs)) qnet1373)), .dat true (PyData.list (List.map (fun xs : (List Bool) => PyData.list (List.map PyData.bool xs)) qcomings_here1374)), .dat true (PyData.int x1376), .dat true (PyData.list (List.map PyData.int j1523.2)), .un, .un, .un]) (EvP.to (EvF.ev (evfp_lst (evap_cons evp_int (evap_cons evp_int (evap_cons evp_int (evap_cons evp_int (evap_cons evp_int (evap_cons evp_int eva_nil)))))) (.cons (.inl rfl) (.cons (.inl rfl) (.cons (.inl rfl) (.cons (.inl rfl) (.cons (.inl rfl) (.cons (.inl rfl) .nil)))))) rfl)) [(0 : Int), (2 : Int), (3 : Int), (4 : Int), (8 : Int), (1 : Int)] (fun xs : (List Int) => PyData.list (List.map PyData.int xs))) (fun x1535 => (ev_callCP (as1 := []) (as2 := [.d true (PyData.int (6 : Int))]) C c_m_qtake (fun _ _ => rfl) (by decide +kernel) 1 false (evap_cons (evp_slot C (.inl rfl) n1 v1) (evap_cons evp_int eva_nil)) (fun _ _ => .nil) (j1523.1, (6 : Int)) rfl .nil (.d .nil) rfl (fun r : (Int × Fd) => (PyData.int r.1)) (fun r : (Int × Fd) => [.dat false (PyData.list (List.map PyData.int qscript)), .own (.abs (feedA r.2)), .dat true (PyData.list (List.map (fun xs : (List Int) => PyData.list (List.map PyData.int xs)) qrows_here1372.1)), .dat true (PyData.tuple (List.map (fun xs : (List Int) => PyData.tuple (List.map PyData.int xs)) qnet1373)), .dat true (PyData.list (List.map (fun xs : (List Bool) => PyData.list (List.map PyData.bool xs)) qcomings_here1374)), .dat true (PyData.int x1376), .dat true (PyData.list (List.map PyData.int j1523.2)), .un, .un, .un]) (fun t z => nox_m_qtake _ _ z))) (fun x1535 y1536 w1537 => (w1537, y1536.2)) (fun z1538 : (Int × Fd) => z1538.1)) (fun x1539 => eva_nil)))))) (fun _ _ => .nil) (fun a1546 : (Int × Int × Fd) => (a1546.2.2, a1546.1, a1546.2.1)) (fun a1546 : (Int × Int × Fd) => []) (fun a1546 : (Int × Int × Fd) => [.d true (PyData.int a1546.1), .d true (PyData.int a1546.2.1)]) (fun _ => rfl) (fun _ => rfl) (fun _ => .nil) (fun _ => ⟨_, (.d (.d .nil)), rfl⟩) (fun a1546 r1547 => (r1547.1, r1547.2)) (fun z1548 : ((List Int) × Fd) => (List.map PyData.int z1548.1)) (fun z1548 : ((List Int) × Fd) => [.dat false (PyData.list (List.map PyData.int qscript)), .own (.abs (feedA z1548.2)), .dat true (PyData.list (List.map (fun xs : (List Int) => PyData.list (List.map PyData.int xs)) qrows_here1372.1)), .dat true (PyData.tuple (List.map (fun xs : (List Int) => PyData.tuple (List.map PyData.int xs)) qnet1373)), .dat true (PyData.list (List.map (fun xs : (List Bool) => PyData.list (List.map PyData.bool xs)) qcomings_here1374)), .dat true (PyData.int x1376), .dat true (PyData.list (List.map PyData.int j1523.2)), .un, .un, .un]) (fun t z => nox_m_qsome _ _ _ z))) fun qshut1549 => (asΓ [.dat false (PyData.list (List.map PyData.int qscript)), .own (.abs (feedA qshut1549.2)), .dat true (PyData.list (List.map (fun xs : (List Int) => PyData.list (List.map PyData.int xs)) qrows_here1372.1)), .dat true (PyData.tuple (List.map (fun xs : (List Int) => PyData.tuple (List.map PyData.int xs)) qnet1373)), .dat true (PyData.list (List.map (fun xs : (List Bool) => PyData.list (List.map PyData.bool xs)) qcomings_here1374)), .dat true (PyData.int x1376), .dat true (PyData.list (List.map PyData.int j1523.2)), .dat true (PyData.list (List.map PyData.int qshut1549.1)), .un, .un] (ex_set C 8 n8 s8 (EvP.to (EvF.ev (evfp_lst (evap_cons (EvF.ev (evf_list C hb_list (by decide +kernel) (evp_var C rfl n6 v6))) (evap_cons (EvF.ev (evf_list C hb_list (by decide +kernel) (evp_var C rfl n7 v7))) eva_nil)) (.cons (.inl rfl) (.cons (.inl rfl) .nil)) rfl)) [j1523.2, qshut1549.1] (fun xs : (List (List Int)) => PyData.list (List.map (fun xs : (List Int) => PyData.list (List.map PyData.int xs)) xs))) fun qhanded1550 => (asΓ [.dat false (PyData.list (List.map PyData.int qscript)), .own (.abs (feedA qshut1549.2)), .dat true (PyData.list (List.map (fun xs : (List Int) => PyData.list (List.map PyData.int xs)) qrows_here1372.1)), .dat true (PyData.tuple (List.map (fun xs : (List Int) => PyData.tuple (List.map PyData.int xs)) qnet1373)), .dat true (PyData.list (List.map (fun xs : (List Bool) => PyData.list (List.map PyData.bool xs)) qcomings_here1374)), .dat true (PyData.int x1376), .dat true (PyData.list (List.map PyData.int j1523.2)), .dat true (PyData.list (List.map PyData.int qshut1549.1)), .dat true (PyData.list (List.map (fun xs : (List Int) => PyData.list (List.map PyData.int xs)) qhanded1550)), .un] (ex_req fun h1551 => (ex_forP (Γs := (fun s1571 : Unit => [.dat false (PyData.list (List.map PyData.int qscript)), .own (.abs (feedA qshut1549.2)), .dat true (PyData.list (List.map (fun xs : (List Int) => PyData.list (List.map PyData.int xs)) qrows_here1372.1)), .dat true (PyData.tuple (List.map (fun xs : (List Int) => PyData.tuple (List.map PyData.int xs)) qnet1373)), .dat true (PyData.list (List.map (fun xs : (List Bool) => PyData.list (List.map PyData.bool xs)) qcomings_here1374)), .dat true (PyData.int x1376), .dat true (PyData.list (List.map PyData.int j1523.2)), .dat true (PyData.list (List.map PyData.int qshut1549.1)), .dat true (PyData.list (List.map (fun xs : (List Int) => PyData.list (List.map PyData.int xs)) qhanded1550)), .un])) (Xr := (fun w : Bool => Xo.rt (PyData.bool w) [])) C [] (evip_range1 C hb_range (by decide +kernel) h1551 evp_int) (tg_name (fr := true) (enc := PyData.int) C 9 n9 s9) rfl (fun s1571 x1552 => (asΓ [.dat false (PyData.list (List.map PyData.int qscript)), .own (.abs (feedA qshut1549.2)), .dat true (PyData.list (List.map (fun xs : (List Int) => PyData.list (List.map PyData.int xs)) qrows_here1372.1)), .dat true (PyData.tuple (List.map (fun xs : (List Int) => PyData.tuple (List.map PyData.int xs)) qnet1373)), .dat true (PyData.list (List.map (fun xs : (List Bool) => PyData.list (List.map PyData.bool xs)) qcomings_here1374)), .dat true (PyData.int x1376), .dat true (PyData.list (List.map PyData.int j1523.2)), .dat true (PyData.list (List.map PyData.int qshut1549.1)), .dat true (PyData.list (List.map (fun xs : (List Int) => PyData.list (List.map PyData.int xs)) qhanded1550)), .dat true (PyData.int x1552)] (ex_ifE (fun e : (Lx Unit Bool) => (Fl.ex e : (Fl Unit (Lx Unit Bool)))) (evt_notM (Ev.tst (ev_call C c_m_qis (by decide +kernel) (eva_cons (as := fun z1615 : ((Option Int) × (Option Int)) => [.d true (optD PyData.int z1615.1), .d true (optD PyData.int z1615.2)]) (Γk := fun z1615 : ((Option Int) × (Option Int)) => [.dat false (PyData.list (List.map PyData.int qscript)), .own (.abs (feedA qshut1549.2)), .dat true (PyData.list (List.map (fun xs : (List Int) => PyData.list (List.map PyData.int xs)) qrows_here1372.1)), .dat true (PyData.tuple (List.map (fun xs : (List Int) => PyData.tuple (List.map PyData.int xs)) qnet1373)), .dat true (PyData.list (List.map (fun xs : (List Bool) => PyData.list (List.map PyData.bool xs)) qcomings_here1374)), .dat true (PyData.int x1376), .dat true (PyData.list (List.map PyData.int j1523.2)), .dat true (PyData.list (List.map PyData.int qshut1549.1)), .dat true (PyData.list (List.map (fun xs : (List Int) => PyData.list (List.map PyData.int xs)) qhanded1550)), .dat true (PyData.int x1552)]) (fun x1610 y1614 => (x1610, y1614)) (ev_pre fun x1606 h1607 => (ev_pre fun x1608 h1609 => (ev_callP C c_m_p_halving_make (by decide +kernel) (evap_cons (evp_var C rfl n3 v3) (evap_cons (evp_ixL (enc := (fun xs : (List Int) => PyData.list (List.map PyData.int xs))) (xs := qhanded1550) (evp_var C rfl n8 v8) evp_int h1607) (evap_cons (evp_ixL (enc := (fun xs : (List Int) => PyData.list (List.map PyData.int xs))) (xs := qhanded1550) (evp_var C rfl n8 v8) evp_int h1609) eva_nil))) (fun _ _ => .nil) (qnet1373, x1606, x1608) (.d (.d (.d .nil))) rfl (fun r : (Option Int) => (optD PyData.int r))))) (fun x1610 => (eva_cons (as := fun z1613 : (Option Int) => [.d true (optD PyData.int z1613)]) (Γk := fun z1613 : (Option Int) => [.dat false (PyData.list (List.map PyData.int qscript)), .own (.abs (feedA qshut1549.2)), .dat true (PyData.list (List.map (fun xs : (List Int) => PyData.list (List.map PyData.int xs)) qrows_here1372.1)), .dat true (PyData.tuple (List.map (fun xs : (List Int) => PyData.tuple (List.map PyData.int xs)) qnet1373)), .dat true (PyData.list (List.map (fun xs : (List Bool) => PyData.list (List.map PyData.bool xs)) qcomings_here1374)), .dat true (PyData.int x1376), .dat true (PyData.list (List.map PyData.int j1523.2)), .dat true (PyData.list (List.map PyData.int qshut1549.1)), .dat true (PyData.list (List.map (fun xs : (List Int) => PyData.list (List.map PyData.int xs)) qhanded1550)), .dat true (PyData.int x1552)]) (fun x1611 y1612 => x1611) (ev_callP C c_m_qbest (by decide +kernel) (evap_cons (evp_var C rfl n4 v4) (evap_cons (evp_var C rfl n6 v6) (evap_cons (evp_var C rfl n7 v7) eva_nil))) (fun _ _ => .nil) (qcomings_here1374, j1523.2, qshut1549.1) (.d (.d (.d .nil))) rfl (fun r : (Option Int) => (optD PyData.int r))) (fun x1611 => eva_nil)))) (fun _ _ => .nil) (fun a1616 : ((Option Int) × (Option Int)) => (a1616.1, a1616.2)) (fun _ => ⟨_, (.d (.d .nil)), rfl⟩) (fun a1616 r1617 => r1617) (fun z1618 : Bool => (PyData.bool z1618)) (fun z1618 : Bool => [.dat false (PyData.list (List.map PyData.int qscript)), .own (.abs (feedA qshut1549.2)), .dat true (PyData.list (List.map (fun xs : (List Int) => PyData.list (List.map PyData.int xs)) qrows_here1372.1)), .dat true (PyData.tuple (List.map (fun xs : (List Int) => PyData.tuple (List.map PyData.int xs)) qnet1373)), .dat true (PyData.list (List.map (fun xs : (List Bool) => PyData.list (List.map PyData.bool xs)) qcomings_here1374)), .dat true (PyData.int x1376), .dat true (PyData.list (List.map PyData.int j1523.2)), .dat true (PyData.list (List.map PyData.int qshut1549.1)), .dat true (PyData.list (List.map (fun xs : (List Int) => PyData.list (List.map PyData.int xs)) qhanded1550)), .dat true (PyData.int x1552)])))) (fun b1619 => (asΓ [.dat false (PyData.list (List.map PyData.int qscript)), .own (.abs (feedA qshut1549.2)), .dat true (PyData.list (List.map (fun xs : (List Int) => PyData.list (List.map PyData.int xs)) qrows_here1372.1)), .dat true (PyData.tuple (List.map (fun xs : (List Int) => PyData.tuple (List.map PyData.int xs)) qnet1373)), .dat true (PyData.list (List.map (fun xs : (List Bool) => PyData.list (List.map PyData.bool xs)) qcomings_here1374)), .dat true (PyData.int x1376), .dat true (PyData.list (List.map PyData.int j1523.2)), .dat true (PyData.list (List.map PyData.int qshut1549.1)), .dat true (PyData.list (List.map (fun xs : (List Int) => PyData.list (List.map PyData.int xs)) qhanded1550)), .dat true (PyData.int x1552)] (ex_retP evp_bool [] trivial))) (fun b1619 => (ex_nil [9] rfl rfl))))) (fun s1571 => (asΓ [.dat false (PyData.list (List.map PyData.int qscript)), .own (.abs (feedA qshut1549.2)), .dat true (PyData.list (List.map (fun xs : (List Int) => PyData.list (List.map PyData.int xs)) qrows_here1372.1)), .dat true (PyData.tuple (List.map (fun xs : (List Int) => PyData.tuple (List.map PyData.int xs)) qnet1373)), .dat true (PyData.list (List.map (fun xs : (List Bool) => PyData.list (List.map PyData.bool xs)) qcomings_here1374)), .dat true (PyData.int x1376), .dat true (PyData.list (List.map PyData.int j1523.2)), .dat true (PyData.list (List.map PyData.int qshut1549.1)), .dat true (PyData.list (List.map (fun xs : (List Int) => PyData.list (List.map PyData.int xs)) qhanded1550)), .un] (ex_ifEP (fun e : (Lx Fd Bool) => (Fl.ex e : (Fl Fd (Lx Fd Bool)))) (EvP.tstC (evp_neT C (eqt_list (eqt_list eqt_int)) (x := qhanded1550) (y := [j1523.2, qshut1549.1]) (evp_var C rfl n8 v8) (EvF.ev (evfp_lst (evap_cons (evp_var C rfl n6 v6) (evap_cons (evp_var C rfl n7 v7) eva_nil)) (.cons (.inl rfl) (.cons (.inl rfl) .nil)) rfl)) .d .d)) (asΓ [.dat false (PyData.list (List.map PyData.int qscript)), .own (.abs (feedA qshut1549.2)), .dat true (PyData.list (List.map (fun xs : (List Int) => PyData.list (List.map PyData.int xs)) qrows_here1372.1)), .dat true (PyData.tuple (List.map (fun xs : (List Int) => PyData.tuple (List.map PyData.int xs)) qnet1373)), .dat true (PyData.list (List.map (fun xs : (List Bool) => PyData.list (List.map PyData.bool xs)) qcomings_here1374)), .dat true (PyData.int x1376), .dat true (PyData.list (List.map PyData.int j1523.2)), .dat true (PyData.list (List.map PyData.int qshut1549.1)), .dat true (PyData.list (List.map (fun xs : (List Int) => PyData.list (List.map PyData.int xs)) qhanded1550)), .un] (ex_retP evp_bool [] trivial)) (asΓ [.dat false (PyData.list (List.map PyData.int qscript)), .own (.abs (feedA qshut1549.2)), .dat true (PyData.list (List.map (fun xs : (List Int) => PyData.list (List.map PyData.int xs)) qrows_here1372.1)), .dat true (PyData.tuple (List.map (fun xs : (List Int) => PyData.tuple (List.map PyData.int xs)) qnet1373)), .dat true (PyData.list (List.map (fun xs : (List Bool) => PyData.list (List.map PyData.bool xs)) qcomings_here1374)), .dat true (PyData.int x1376), .dat true (PyData.list (List.map PyData.int j1523.2)), .dat true (PyData.list (List.map PyData.int qshut1549.1)), .dat true (PyData.list (List.map (fun xs : (List Int) => PyData.list (List.map PyData.int xs)) qhanded1550)), .un] (ex_ifE (fun e : (Lx Fd Bool) => (Fl.ex e : (Fl Fd (Lx Fd Bool)))) (evt_notM (Ev.tst (ev_call C c_m_qis (by decide +kernel) (eva_cons (as := fun z1577 : ((Option Int) × (Option Int)) => [.d true (optD PyData.int z1577.1), .d true (optD PyData.int z1577.2)]) (Γk := fun z1577 : ((Option Int) × (Option Int)) => [.dat false (PyData.list (List.map PyData.int qscript)), .own (.abs (feedA qshut1549.2)), .dat true (PyData.list (List.map (fun xs : (List Int) => PyData.list (List.map PyData.int xs)) qrows_here1372.1)), .dat true (PyData.tuple (List.map (fun xs : (List Int) => PyData.tuple (List.map PyData.int xs)) qnet1373)), .dat true (PyData.list (List.map (fun xs : (List Bool) => PyData.list (List.map PyData.bool xs)) qcomings_here1374)), .dat true (PyData.int x1376), .dat true (PyData.list (List.map PyData.int j1523.2)), .dat true (PyData.list (List.map PyData.int qshut1549.1)), .dat true (PyData.list (List.map (fun xs : (List Int) => PyData.list (List.map PyData.int xs)) qhanded1550)), .un]) (fun x1572 y1576 => (x1572, y1576)) (ev_callP C c_m_p_halving_make_2_d1 (by decide +kernel) (evap_cons (evp_var C rfl n3 v3) (evap_cons (ev_tuple C hb_tuple (by decide +kernel) (evp_var C rfl n6 v6)) eva_nil)) (fun _ _ => (.cons .non .nil)) (qnet1373, j1523.2, ()) (.d (.d .nil)) rfl (fun r : (Option Int) => (optD PyData.int r))) (fun x1572 => (eva_cons (as := fun z1575 : (Option Int) => [.d true (optD PyData.int z1575)]) (Γk := fun z1575 : (Option Int) => [.dat false (PyData.list (List.map PyData.int qscript)), .own (.abs (feedA qshut1549.2)), .dat true (PyData.list (List.map (fun xs : (List Int) => PyData.list (List.map PyData.int xs)) qrows_here1372.1)), .dat true (PyData.tuple (List.map (fun xs : (List Int) => PyData.tuple (List.map PyData.int xs)) qnet1373)), .dat true (PyData.list (List.map (fun xs : (List Bool) => PyData.list (List.map PyData.bool xs)) qcomings_here1374)), .dat true (PyData.int x1376), .dat true (PyData.list (List.map PyData.int j1523.2)), .dat true (PyData.list (List.map PyData.int qshut1549.1)), .dat true (PyData.list (List.map (fun xs : (List Int) => PyData.list (List.map PyData.int xs)) qhanded1550)), .un]) (fun x1573 y1574 => x1573) (ev_callP C c_m_qbest (by decide +kernel) (evap_cons (evp_var C rfl n4 v4) (evap_cons (evp_var C rfl n6 v6) (evap_cons (EvF.ev (evfp_lst eva_nil .nil rfl)) eva_nil))) (fun _ _ => .nil) (qcomings_here1374, j1523.2, ([] : (List Int))) (.d (.d (.d .nil))) rfl (fun r : (Option Int) => (optD PyData.int r))) (fun x1573 => eva_nil)))) (fun _ _ => .nil) (fun a1578 : ((Option Int) × (Option Int)) => (a1578.1, a1578.2)) (fun _ => ⟨_, (.d (.d .nil)), rfl⟩) (fun a1578 r1579 => r1579) (fun z1580 : Bool => (PyData.bool z1580)) (fun z1580 : Bool => [.dat false (PyData.list (List.map PyData.int qscript)), .own (.abs (feedA qshut1549.2)), .dat true (PyData.list (List.map (fun xs : (List Int) => PyData.list (List.map PyData.int xs)) qrows_here1372.1)), .dat true (PyData.tuple (List.map (fun xs : (List Int) => PyData.tuple (List.map PyData.int xs)) qnet1373)), .dat true (PyData.list (List.map (fun xs : (List Bool) => PyData.list (List.map PyData.bool xs)) qcomings_here1374)), .dat true (PyData.int x1376), .dat true (PyData.list (List.map PyData.int j1523.2)), .dat true (PyData.list (List.map PyData.int qshut1549.1)), .dat true (PyData.list (List.map (fun xs : (List Int) => PyData.list (List.map PyData.int xs)) qhanded1550)), .un])))) (fun b1581 => (asΓ [.dat false (PyData.list (List.map PyData.int qscript)), .own (.abs (feedA qshut1549.2)), .dat true (PyData.list (List.map (fun xs : (List Int) => PyData.list (List.map PyData.int xs)) qrows_here1372.1)), .dat true (PyData.tuple (List.map (fun xs : (List Int) => PyData.tuple (List.map PyData.int xs)) qnet1373)), .dat true (PyData.list (List.map (fun xs : (List Bool) => PyData.list (List.map PyData.bool xs)) qcomings_here1374)), .dat true (PyData.int x1376), .dat true (PyData.list (List.map PyData.int j1523.2)), .dat true (PyData.list (List.map PyData.int qshut1549.1)), .dat true (PyData.list (List.map (fun xs : (List Int) => PyData.list (List.map PyData.int xs)) qhanded1550)), .un] (ex_retP evp_bool [] trivial))) (fun b1581 => (asΓ [.dat false (PyData.list (List.map PyData.int qscript)), .own (.abs (feedA qshut1549.2)), .dat true (PyData.list (List.map (fun xs : (List Int) => PyData.list (List.map PyData.int xs)) qrows_here1372.1)), .dat true (PyData.tuple (List.map (fun xs : (List Int) => PyData.tuple (List.map PyData.int xs)) qnet1373)), .dat true (PyData.list (List.map (fun xs : (List Bool) => PyData.list (List.map PyData.bool xs)) qcomings_here1374)), .dat true (PyData.int x1376), .dat true (PyData.list (List.map PyData.int j1523.2)), .dat true (PyData.list (List.map PyData.int qshut1549.1)), .dat true (PyData.list (List.map (fun xs : (List Int) => PyData.list (List.map PyData.int xs)) qhanded1550)), .un] (ex_ifE (fun e : (Lx Fd Bool) => (Fl.ex e : (Fl Fd (Lx Fd Bool)))) (evt_notM (Ev.tst (ev_call C c_m_qis (by decide +kernel) (eva_cons (as := fun z1587 : ((Option Int) × (Option Int)) => [.d true (optD PyData.int z1587.1), .d true (optD PyData.int z1587.2)]) (Γk := fun z1587 : ((Option Int) × (Option Int)) => [.dat false (PyData.list (List.map PyData.int qscript)), .own (.abs (feedA qshut1549.2)), .dat true (PyData.list (List.map (fun xs : (List Int) => PyData.list (List.map PyData.int xs)) qrows_here1372.1)), .dat true (PyData.tuple (List.map (fun xs : (List Int) => PyData.tuple (List.map PyData.int xs)) qnet1373)), .dat true (PyData.list (List.map (fun xs : (List Bool) => PyData.list (List.map PyData.bool xs)) qcomings_here1374)), .dat true (PyData.int x1376), .dat true (PyData.list (List.map PyData.int j1523.2)), .dat true (PyData.list (List.map PyData.int qshut1549.1)), .dat true (PyData.list (List.map (fun xs : (List Int) => PyData.list (List.map PyData.int xs)) qhanded1550)), .un]) (fun x1582 y1586 => (x1582, y1586)) (ev_callP C c_m_p_halving_make_3 (by decide +kernel) (evap_cons (evp_var C rfl n3 v3) (evap_cons (evp_var C rfl n6 v6) (evap_cons evp_none eva_nil))) (fun _ _ => .nil) (qnet1373, j1523.2, ()) (.d (.d (.d .nil))) rfl (fun r : (Option Int) => (optD PyData.int r))) (fun x1582 => (eva_cons (as := fun z1585 : (Option Int) => [.d true (optD PyData.int z1585)]) (Γk := fun z1585 : (Option Int) => [.dat false (PyData.list (List.map PyData.int qscript)), .own (.abs (feedA qshut1549.2)), .dat true (PyData.list (List.map (fun xs : (List Int) => PyData.list (List.map PyData.int xs)) qrows_here1372.1)), .dat true (PyData.tuple (List.map (fun xs : (List Int) => PyData.tuple (List.map PyData.int xs)) qnet1373)), .dat true (PyData.list (List.map (fun xs : (List Bool) => PyData.list (List.map PyData.bool xs)) qcomings_here1374)), .dat true (PyData.int x1376), .dat true (PyData.list (List.map PyData.int j1523.2)), .dat true (PyData.list (List.map PyData.int qshut1549.1)), .dat true (PyData.list (List.map (fun xs : (List Int) => PyData.list (List.map PyData.int xs)) qhanded1550)), .un]) (fun x1583 y1584 => x1583) (ev_callP C c_m_qbest (by decide +kernel) (evap_cons (evp_var C rfl n4 v4) (evap_cons (evp_var C rfl n6 v6) (evap_cons (EvF.ev (evfp_lst eva_nil .nil rfl)) eva_nil))) (fun _ _ => .nil) (qcomings_here1374, j1523.2, ([] : (List Int))) (.d (.d (.d .nil))) rfl (fun r : (Option Int) => (optD PyData.int r))) (fun x1583 => eva_nil)))) (fun _ _ => .nil) (fun a1588 : ((Option Int) × (Option Int)) => (a1588.1, a1588.2)) (fun _ => ⟨_, (.d (.d .nil)), rfl⟩) (fun a1588 r1589 => r1589) (fun z1590 : Bool => (PyData.bool z1590)) (fun z1590 : Bool => [.dat false (PyData.list (List.map PyData.int qscript)), .own (.abs (feedA qshut1549.2)), .dat true (PyData.list (List.map (fun xs : (List Int) => PyData.list (List.map PyData.int xs)) qrows_here1372.1)), .dat true (PyData.tuple (List.map (fun xs : (List Int) => PyData.tuple (List.map PyData.int xs)) qnet1373)), .dat true (PyData.list (List.map (fun xs : (List Bool) => PyData.list (List.map PyData.bool xs)) qcomings_here1374)), .dat true (PyData.int x1376), .dat true (PyData.list (List.map PyData.int j1523.2)), .dat true (PyData.list (List.map PyData.int qshut1549.1)), .dat true (PyData.list (List.map (fun xs : (List Int) => PyData.list (List.map PyData.int xs)) qhanded1550)), .un])))) (fun b1591 => (asΓ [.dat false (PyData.list (List.map PyData.int qscript)), .own (.abs (feedA qshut1549.2)), .dat true (PyData.list (List.map (fun xs : (List Int) => PyData.list (List.map PyData.int xs)) qrows_here1372.1)), .dat true (PyData.tuple (List.map (fun xs : (List Int) => PyData.tuple (List.map PyData.int xs)) qnet1373)), .dat true (PyData.list (List.map (fun xs : (List Bool) => PyData.list (List.map PyData.bool xs)) qcomings_here1374)), .dat true (PyData.int x1376), .dat true (PyData.list (List.map PyData.int j1523.2)), .dat true (PyData.list (List.map PyData.int qshut1549.1)), .dat true (PyData.list (List.map (fun xs : (List Int) => PyData.list (List.map PyData.int xs)) qhanded1550)), .un] (ex_retP evp_bool [] trivial))) (fun b1591 => (asΓ [.dat false (PyData.list (List.map PyData.int qscript)), .own (.abs (feedA qshut1549.2)), .dat true (PyData.list (List.map (fun xs : (List Int) => PyData.list (List.map PyData.int xs)) qrows_here1372.1)), .dat true (PyData.tuple (List.map (fun xs : (List Int) => PyData.tuple (List.map PyData.int xs)) qnet1373)), .dat true (PyData.list (List.map (fun xs : (List Bool) => PyData.list (List.map PyData.bool xs)) qcomings_here1374)), .dat true (PyData.int x1376), .dat true (PyData.list (List.map PyData.int j1523.2)), .dat true (PyData.list (List.map PyData.int qshut1549.1)), .dat true (PyData.list (List.map (fun xs : (List Int) => PyData.list (List.map PyData.int xs)) qhanded1550)), .un] (ex_ifE (fun e : (Lx Fd Bool) => (Fl.ex e : (Fl Fd (Lx Fd Bool)))) (evt_notM (Ev.tst (ev_call C c_m_qis (by decide +kernel) (eva_cons (as := fun z1597 : ((Option Int) × (Option Int)) => [.d true (optD PyData.int z1597.1), .d true (optD PyData.int z1597.2)]) (Γk := fun z1597 : ((Option Int) × (Option Int)) => [.dat false (PyData.list (List.map PyData.int qscript)), .own (.abs (feedA qshut1549.2)), .dat true (PyData.list (List.map (fun xs : (List Int) => PyData.list (List.map PyData.int xs)) qrows_here1372.1)), .dat true (PyData.tuple (List.map (fun xs : (List Int) => PyData.tuple (List.map PyData.int xs)) qnet1373)), .dat true (PyData.list (List.map (fun xs : (List Bool) => PyData.list (List.map PyData.bool xs)) qcomings_here1374)), .dat true (PyData.int x1376), .dat true (PyData.list (List.map PyData.int j1523.2)), .dat true (PyData.list (List.map PyData.int qshut1549.1)), .dat true (PyData.list (List.map (fun xs : (List Int) => PyData.list (List.map PyData.int xs)) qhanded1550)), .un]) (fun x1592 y1596 => (x1592, y1596)) (ev_callKP C c_m_p_halving_make_4_barred (by decide +kernel) (evap_cons (evp_var C rfl n3 v3) (evap_cons (evp_var C rfl n6 v6) eva_nil)) (evk_cons (ev_tuple C hb_tuple (by decide +kernel) (evp_var C rfl n7 v7)) evk_nil) (fun _ _ => .nil) (qnet1373, j1523.2, qshut1549.1) (.d (.d .nil)) (.d .nil) rfl rfl rfl (fun r : (Option Int) => (optD PyData.int r))) (fun x1592 => (eva_cons (as := fun z1595 : (Option Int) => [.d true (optD PyData.int z1595)]) (Γk := fun z1595 : (Option Int) => [.dat false (PyData.list (List.map PyData.int qscript)), .own (.abs (feedA qshut1549.2)), .dat true (PyData.list (List.map (fun xs : (List Int) => PyData.list (List.map PyData.int xs)) qrows_here1372.1)), .dat true (PyData.tuple (List.map (fun xs : (List Int) => PyData.tuple (List.map PyData.int xs)) qnet1373)), .dat true (PyData.list (List.map (fun xs : (List Bool) => PyData.list (List.map PyData.bool xs)) qcomings_here1374)), .dat true (PyData.int x1376), .dat true (PyData.list (List.map PyData.int j1523.2)), .dat true (PyData.list (List.map PyData.int qshut1549.1)), .dat true (PyData.list (List.map (fun xs : (List Int) => PyData.list (List.map PyData.int xs)) qhanded1550)), .un]) (fun x1593 y1594 => x1593) (ev_callP C c_m_qbest (by decide +kernel) (evap_cons (evp_var C rfl n4 v4) (evap_cons (evp_var C rfl n6 v6) (evap_cons (evp_var C rfl n7 v7) eva_nil))) (fun _ _ => .nil) (qcomings_here1374, j1523.2, qshut1549.1) (.d (.d (.d .nil))) rfl (fun r : (Option Int) => (optD PyData.int r))) (fun x1593 => eva_nil)))) (fun _ _ => .nil) (fun a1598 : ((Option Int) × (Option Int)) => (a1598.1, a1598.2)) (fun _ => ⟨_, (.d (.d .nil)), rfl⟩) (fun a1598 r1599 => r1599) (fun z1600 : Bool => (PyData.bool z1600)) (fun z1600 : Bool => [.dat false (PyData.list (List.map PyData.int qscript)), .own (.abs (feedA qshut1549.2)), .dat true (PyData.list (List.map (fun xs : (List Int) => PyData.list (List.map PyData.int xs)) qrows_here1372.1)), .dat true (PyData.tuple (List.map (fun xs : (List Int) => PyData.tuple (List.map PyData.int xs)) qnet1373)), .dat true (PyData.list (List.map (fun xs : (List Bool) => PyData.list (List.map PyData.bool xs)) qcomings_here1374)), .dat true (PyData.int x1376), .dat true (PyData.list (List.map PyData.int j1523.2)), .dat true (PyData.list (List.map PyData.int qshut1549.1)), .dat true (PyData.list (List.map (fun xs : (List Int) => PyData.list (List.map PyData.int xs)) qhanded1550)), .un])))) (fun b1601 => (asΓ [.dat false (PyData.list (List.map PyData.int qscript)), .own (.abs (feedA qshut1549.2)), .dat true (PyData.list (List.map (fun xs : (List Int) => PyData.list (List.map PyData.int xs)) qrows_here1372.1)), .dat true (PyData.tuple (List.map (fun xs : (List Int) => PyData.tuple (List.map PyData.int xs)) qnet1373)), .dat true (PyData.list (List.map (fun xs : (List Bool) => PyData.list (List.map PyData.bool xs)) qcomings_here1374)), .dat true (PyData.int x1376), .dat true (PyData.list (List.map PyData.int j1523.2)), .dat true (PyData.list (List.map PyData.int qshut1549.1)), .dat true (PyData.list (List.map (fun xs : (List Int) => PyData.list (List.map PyData.int xs)) qhanded1550)), .un] (ex_retP evp_bool [] trivial))) (fun b1601 => (ex_nil [5, 6, 7, 8] rfl rfl)))))))))))))))))))))))))) (fun s1498 => (asΓ [.dat false (PyData.list (List.map PyData.int qscript)), .own (.abs (feedA s1498)), .dat true (PyData.list (List.map (fun xs : (List Int) => PyData.list (List.map PyData.int xs)) qrows_here1372.1)), .dat true (PyData.tuple (List.map (fun xs : (List Int) => PyData.tuple (List.map PyData.int xs)) qnet1373)), .dat true (PyData.list (List.map (fun xs : (List Bool) => PyData.list (List.map PyData.bool xs)) qcomings_here1374)), .un, .un, .un, .un, .un] (ex_retP evp_bool [] trivial))))))))))))))

end PDW


set_option linter.all false
set_option maxRecDepth 100000
set_option autoImplicit false
namespace PDW
open PySem L2 PD
theorem cMul_of {i j : Int} (hi : i.natAbs < 2 ^ 100) (hj : j.natAbs < 2 ^ 100) : cMul i j = true := by
  unfold cMul
  have h1 : i.natAbs.log2 ≤ 100 := by
    by_cases h : i.natAbs = 0
    · rw [h]; decide
    · exact Nat.le_of_lt ((Nat.log2_lt h).mpr hi)
  have h2 : j.natAbs.log2 ≤ 100 := by
    by_cases h : j.natAbs = 0
    · rw [h]; decide
    · exact Nat.le_of_lt ((Nat.log2_lt h).mpr hj)
  exact decide_eq_true (by omega)
theorem cMod_of {i j : Int} (h : 0 < j) : cMod i j = true := decide_eq_true h
theorem cDiv_of {i j : Int} (h : 0 < j) (h2 : j < 2 ^ 60) : cDiv i j = true := by
  unfold cDiv
  rw [decide_eq_true h, Bool.true_and]
  refine decide_eq_true ?_
  have h3 : j.natAbs ≠ 0 := by omega
  have : j.natAbs.log2 < 60 := (Nat.log2_lt h3).mpr (by omega)
  omega
theorem insI_mem {α : Type} {xs : List α} {n : Int} {y x : α} : x ∈ insI xs n y ↔ x = y ∨ x ∈ xs := by
  unfold insI
  have h := List.take_append_drop n.toNat xs
  constructor
  · intro z
    simp only [List.mem_append, List.mem_singleton] at z
    rcases z with (z | z) | z
    · exact .inr (List.mem_of_mem_take z)
    · exact .inl z
    · exact .inr (List.mem_of_mem_drop z)
  · rintro (z | z)
    · simp [z]
    · rw [← h] at z
      simp only [List.mem_append, List.mem_singleton]
      rcases List.mem_append.mp z with z | z
      · exact .inl (.inl z)
      · exact .inr z
theorem insI_len {α : Type} {xs : List α} {n : Int} {y : α} : (insI xs n y).length = xs.length + 1 := by
  unfold insI
  simp
  omega
theorem cIns_of {α : Type} {xs : List α} {n : Int} (h : xs.length < 1000) (h0 : 0 ≤ n) (h1 : n < 2 ^ 60) : cIns xs n = true := by
  unfold cIns
  rw [decide_eq_true (p := xs.length < sizeLine) (Nat.lt_of_lt_of_le h (by decide)), decide_eq_true ⟨h0, by omega⟩]
  rfl

theorem take_ok (f : Fd) {many : Int} (h0 : 0 < many) (h1 : many < 2 ^ 60) : Ok (m_qtake f many) (fun r => 0 ≤ r.1 ∧ r.1 < many) := by
  obtain ⟨cs, t, sd⟩ := f
  unfold m_qtake
  have last : ∀ j : Fd, Ok ((R.val ((((j.2.2 + ((40503 : Int) * j.2.1)) + (9973 : Int)) * (69069 : Int)) % (2147483647 : Int))).bind fun (m : Int) => (R.bind (R.req (cMul m m)) fun _ => (R.bind (R.val ((((m * m) + ((30269 : Int) * m)) + j.2.1) % (2147483629 : Int))) fun (q : Int) => (R.bind (R.req (cMod (q / (64 : Int)) many)) fun _ => (R.val (((q / (64 : Int)) % many), j)))))) (fun r => 0 ≤ r.1 ∧ r.1 < many) := fun j => by
    have m0 : 0 ≤ (((j.2.2 + ((40503 : Int) * j.2.1)) + (9973 : Int)) * (69069 : Int)) % (2147483647 : Int) := Int.emod_nonneg _ (by decide)
    have m1 : (((j.2.2 + ((40503 : Int) * j.2.1)) + (9973 : Int)) * (69069 : Int)) % (2147483647 : Int) < 2147483647 := Int.emod_lt_of_pos _ (by decide)
    exact ok_bindV (ok_req (cMul_of (by omega) (by omega)) (ok_bindV (ok_req (cMod_of h0) (ok_val ⟨Int.emod_nonneg _ (by omega), Int.emod_lt_of_pos _ h0⟩))))
  refine ok_bindV ?_
  refine ok_bind (P := fun w : Fl Fd (Int × Fd) => match w with | .nx _ => True | .ex r => 0 ≤ r.1 ∧ r.1 < many) ?_ fun w hw => ?_
  · refine ok_ite (fun h => ?_) (fun _ => ok_val trivial)
    cases cs with
    | nil => simp at h
    | cons c cs =>
      refine ok_ofO (a := c) (atI_ok (by decide) rfl) (ok_bindV (ok_ite (fun _ => ?_) (fun _ => ok_bindV (ok_val trivial))))
      refine ok_bind (P := fun r : Int × Fd => 0 ≤ r.1 ∧ r.1 < many) (ok_bind (P := fun _ => True) (ok_req (cDiv_of h0 h1) (ok_val trivial)) fun y _ => ok_req (by simp) (ok_req (cMod_of h0) (ok_val ⟨Int.emod_nonneg _ (by omega), Int.emod_lt_of_pos _ h0⟩))) fun r hr => ok_val hr
  · cases w with
    | nx j => exact last j
    | ex r => exact ok_val hw
/-- rows of elders, in any order -/
def RowsOk (rows : List (List Int)) : Prop := ∀ (k : Nat) (row : List Int), rows[k]? = some row → (∀ e ∈ row, 0 ≤ e ∧ e < (k : Int)) ∧ row.Nodup ∧ row.length < 64
theorem elders_ok (f : Fd) {make way : Int} (h0 : 0 < make) (h1 : make ≤ 50) : Ok (m_qelders f make way) (fun r => (∀ e ∈ r.1, 0 ≤ e ∧ e < make) ∧ r.1.Nodup ∧ r.1.length < 64) := by
  unfold m_qelders
  refine ok_ite (fun _ => ok_val ⟨by simp; omega, by simp, by simp⟩) fun _ => ok_ite (fun _ => ok_val ⟨by simp; omega, by simp, by simp⟩) fun _ => ok_ite (fun _ => ok_val ⟨by simp, by simp, by simp⟩) fun _ => ok_ite (fun _ => ok_val ⟨by simp; omega, by simp, by simp⟩) fun _ => ok_ite (fun _ => ?_) fun _ => ?_
  · refine ok_req (cRng_of (by decide) (by decide) (by omega) (by omega)) (ok_bind (P := fun r : Fd × List Int => (∀ e ∈ r.2, 0 ≤ e ∧ e < make) ∧ r.2.Nodup ∧ r.2.length < 64) (ok_bindV (ok_req (szB_of (by rw [rng_len]; omega)) ((ok_compR (fun (done : List Int) (ys : List Int) (_ : Fd) => (∀ e ∈ ys, e ∈ done) ∧ ys.Pairwise (· < ·) ∧ ys.length ≤ done.length) (rng 0 make) [] [] f ⟨by simp, .nil, by simp⟩ fun p y q ys g e hJ => ?_).mono fun r hr => ?_))) fun r hr => ok_val hr)
    · refine ok_bind (take_ok g (by decide) (by decide)) fun x _ => ok_bindV (ok_val ?_)
      split
      · refine ok_val ⟨fun e' he => ?_, ?_, by simp; exact hJ.2.2⟩
        · rcases List.mem_append.mp he with z | z
          · exact List.mem_append_left _ (hJ.1 e' z)
          · exact List.mem_append_right _ z
        · rw [List.pairwise_append]
          refine ⟨hJ.2.1, by simp, fun a ha b hb => ?_⟩
          have hb : b = y := by simpa using hb
          subst hb
          have hr := rng_rise 0 make
          have e : rng 0 make = p ++ b :: q := e
          rw [e, List.pairwise_append] at hr
          exact hr.2.2 a (hJ.1 a ha) b (by simp)
      · exact ⟨fun e' he => List.mem_append_left _ (hJ.1 e' he), hJ.2.1, by simp; have := hJ.2.2; omega⟩
    · simp only [List.nil_append] at hr
      refine ⟨fun e he => rng_mem.mp (hr.1 e he), hr.2.1.imp (fun h => by omega), ?_⟩
      have := hr.2.2
      rw [rng_len] at this
      omega
  · refine ok_bindV (ok_bind (P := fun r : Int × Fd => 0 ≤ r.1 ∧ r.1 < 7) (ok_bind (P := fun r : Int × Fd => 0 ≤ r.1 ∧ r.1 < 7) (ok_bind (take_ok f (by decide) (by decide)) fun x hx => ok_bindV (ok_val hx)) fun r hr => ok_iteT (cRng_of (by decide) (by decide) (by omega) (by omega)) (ok_val hr)) fun r hr => ?_)
    refine ok_bind (P := fun s : Fd × List Int => (∀ e ∈ s.2, 0 ≤ e ∧ e < make) ∧ s.2.Nodup ∧ s.2.length < 64) ((ok_fold0 (fun p (s : Fd × List Int) => (∀ e ∈ s.2, 0 ≤ e ∧ e < make) ∧ s.2.Nodup ∧ s.2.length ≤ p.length) ⟨by simp, by simp, by simp⟩ fun p x q s e hI => ?_).mono fun s hs => ⟨hs.1, hs.2.1, by have := hs.2.2; rw [rng_len] at this; omega⟩) fun s hs => ok_val hs
    obtain ⟨_, el⟩ := rng_split e
    refine ok_bind (take_ok s.1 h0 (by omega)) fun y hy => ok_ofO (ninB_int _ _) (ok_bind (P := fun l : List Int => (∀ e ∈ l, 0 ≤ e ∧ e < make) ∧ l.Nodup ∧ l.length ≤ p.length + 1) (ok_ite (fun hn => ?_) fun _ => ok_val ⟨hI.1, hI.2.1, by have := hI.2.2; omega⟩) fun l hl => ok_val ⟨hl.1, hl.2.1, by simpa using hl.2.2⟩)
    have := hI.2.2
    have hn : y.1 ∉ s.2 := by simpa using hn
    refine ok_req (ltS_of (by omega)) (ok_bindV (ok_val ⟨fun e' he => ?_, ?_, by simp; omega⟩))
    · rcases List.mem_append.mp he with z | z
      · exact hI.1 e' z
      · have : e' = y.1 := by simpa using z
        rw [this]; exact hy
    · rw [List.nodup_append]
      refine ⟨hI.2.1, by simp, fun a ha b hb => ?_⟩
      have : b = y.1 := by simpa using hb
      subst this
      exact fun z => hn (z ▸ ha)
theorem rows_ok (f : Fd) : Ok (m_qrows f) (fun r => RowsOk r.1 ∧ 1 ≤ r.1.length ∧ r.1.length ≤ 40) := by
  unfold m_qrows
  refine ok_bindV (ok_bind (take_ok f (by decide) (by decide)) fun w hw => ok_bind (P := fun r : Int × Int × Fd => r.1 = 1 ∧ 1 ≤ r.2.1 ∧ r.2.1 ≤ 40) (ok_bind (P := fun r : Int × Int × Fd => r.1 = 1 ∧ 1 ≤ r.2.1 ∧ r.2.1 ≤ 40) (ok_bindV (ok_bind (P := fun r : Int × Fd => 1 ≤ r.1 ∧ r.1 ≤ 40) (ok_bind (P := fun r : Int × Fd => 1 ≤ r.1 ∧ r.1 ≤ 40) (ok_bindV (ok_bind (take_ok w.2 (by decide) (by decide)) fun x hx => ok_val ⟨by simp only; omega, by simp only; omega⟩)) fun r hr => ok_bindV (ok_val hr)) fun r hr => ok_val ⟨rfl, hr⟩)) fun r hr => ok_iteT (cRng_of (by omega) (by omega) (by omega) (by omega)) (ok_val hr)) fun r hr => ?_)
  refine ok_bind (P := fun s : Fd × List (List Int) => RowsOk s.2 ∧ 1 ≤ s.2.length ∧ s.2.length ≤ 40) ((ok_fold0 (fun p (s : Fd × List (List Int)) => RowsOk s.2 ∧ s.2.length = p.length + 1) ⟨?_, rfl⟩ fun p x q s e hI => ?_).mono fun s hs => ⟨hs.1, by omega, by have := hs.2; rw [rng_len] at this; omega⟩) fun s hs => ok_val hs
  · intro k row hk
    cases k with
    | zero => simp at hk; subst hk; simp
    | succ k => simp at hk
  · obtain ⟨ex, el⟩ := rng_split e
    refine ok_bindV (ok_bind (P := fun _ => True) (ok_ite (fun _ => ok_bind (take_ok _ (by decide) (by decide)) fun _ _ => ok_val trivial) fun _ => ok_val trivial) fun j _ => ok_bind (P := fun z : Fd × List (List Int) => RowsOk z.2 ∧ z.2.length = p.length + 2) (ok_bind (elders_ok j.1 (by omega) (by omega)) fun r' hr' => ok_req (ltS_of (by omega)) (ok_val ⟨?_, by simp; omega⟩)) fun z hz => ok_val ⟨hz.1, by simpa using hz.2⟩)
    intro k row hk
    by_cases hlt : k < s.2.length
    · rw [List.getElem?_append_left hlt] at hk
      exact hI.1 k row hk
    · have : k = s.2.length := by have := (List.getElem?_eq_some_iff.mp hk).1; simp at this; omega
      subst this
      simp at hk
      subst hk
      refine ⟨fun e' he => ?_, hr'.2⟩
      have := hr'.1 e' he
      omega
end PDW


set_option linter.all false
set_option maxRecDepth 100000
set_option autoImplicit false
namespace PDW
open PySem L2 PD
theorem loop_none {α ε : Type} {step : Unit → α → R (Fl Unit (Lx Unit ε))} : ∀ {xs : List α}, (∀ x ∈ xs, step () x = .val (.nx ())) → loopV (fun w : Fl Unit (Lx Unit ε) => w) step xs () = .val (.nx ())
  | [], _ => rfl
  | x :: xs, h => by
    unfold loopV
    rw [h x (by simp), bind_v]
    exact loop_none fun y hy => h y (by simp [hy])
theorem elders_true {row : List Int} {make : Int} (h : ∀ e ∈ row, 0 ≤ e ∧ e < make) (hn : row.Nodup) (hl : row.length < 64) : m_p_are_elders row make = .val true := by
  unfold m_p_are_elders
  rw [loop_none fun x hx => ?_]
  · have : ndI row = true := by unfold ndI lt64; rw [decide_eq_true hl, decide_eq_true hn]; rfl
    simp only [bind_v, contV, req_t this, decide_true]
  · have := h x hx
    rw [if_neg (by simp; omega)]
/-- the net of rows -/
def netR (rows : List (List Int)) : List (List Int) := rows.map sortI
theorem net_of_eq {rows : List (List Int)} (h : RowsOk rows) (h1 : 1 ≤ rows.length) (h2 : rows.length ≤ 40) : m_p_net_of rows = .val (netR rows) := by
  unfold m_p_net_of
  rw [if_neg (by simp; omega), bind_v, fold_filter (b := fun _ => true) (f := fun x => sortI x.2) (fun s x hx hs => ?_) (by rw [enum_len]; simp; omega)]
  · rw [bind_v, filt_tt, List.nil_append]
    congr 1
    unfold netR
    apply List.ext_getElem?
    intro i
    rw [List.getElem?_map, List.getElem?_map]
    unfold enumI
    rw [List.getElem?_mapIdx]
    cases rows[i]? <;> rfl
  · obtain ⟨k, e1, e2⟩ := enum_mem.mp hx
    obtain ⟨q1, q2, q3⟩ := h k x.2 e2
    rw [e1, elders_true q1 q2 q3]
    simp only [bind_v, Bool.not_true, Bool.false_eq_true, if_false, if_true, req_t (ltS_of hs)]
theorem sortI_mem {x : Int} {xs : List Int} : x ∈ sortI xs ↔ x ∈ xs := (sortI_perm xs).mem_iff
theorem net_ok {rows : List (List Int)} (h : RowsOk rows) : NetOk (netR rows) := by
  intro k row hk
  unfold netR at hk
  rw [List.getElem?_map] at hk
  cases hr : rows[k]? with
  | none => rw [hr] at hk; simp at hk
  | some r =>
    rw [hr] at hk
    simp at hk
    subst hk
    obtain ⟨q1, q2, _⟩ := h k r hr
    refine ⟨fun e he => q1 e (sortI_mem.mp he), ?_⟩
    have nd : (sortI r).Nodup := (sortI_perm r).nodup_iff.mpr q2
    exact ((sortI_le r).and nd).imp fun ⟨a, b⟩ => by omega
end PDW


set_option linter.all false
set_option maxRecDepth 100000
set_option autoImplicit false
namespace PDW
open PySem L2 PD
def Reach (net : List (List Int)) (rs : List (List Bool)) : Prop := rs.length = net.length ∧ ∀ (i : Nat) (row : List Bool), rs[i]? = some row → RowOk net.length row (Anc net i)
theorem row_set {n : Nat} {row : List Bool} {S T : Nat → Prop} {k : Nat} {b : Bool} (h : RowOk n row S) (hk : b = true ↔ T k) (hT : ∀ j, j ≠ k → (S j ↔ T j)) : RowOk n (row.set k b) T := by
  refine ⟨by rw [List.length_set]; exact h.1, fun j c hj => ?_⟩
  by_cases e : j = k
  · subst e
    have hl : j < row.length := by have := (List.getElem?_eq_some_iff.mp hj).1; simpa using this
    rw [List.getElem?_set_self hl] at hj
    cases hj
    exact hk
  · rw [List.getElem?_set_ne (Ne.symm e)] at hj
    exact (h.2 j c hj).trans (hT j e)
theorem ixN_of {n k : Nat} (h : k < n) : ixN n (k : Int) = some k := by
  unfold ixN
  rw [if_pos (by omega), if_pos (by omega)]
  simp
theorem netR_get {rows : List (List Int)} {k : Nat} {row : List Int} (h : rows[k]? = some row) : (netR rows)[k]? = some (sortI row) := by
  unfold netR
  rw [List.getElem?_map, h]
  rfl
theorem netR_len (rows : List (List Int)) : (netR rows).length = rows.length := by unfold netR; simp
theorem comings_ok {rows : List (List Int)} (h : RowsOk rows) (hn : rows.length ≤ 100) : Ok (m_qcomings rows) (Reach (netR rows)) := by
  have hN := net_ok h
  unfold m_qcomings
  refine ok_bindV (ok_req (cRng_of (by decide) (by decide) (by omega) (by omega)) (ok_bind (P := Reach (netR rows)) ?_ fun s hs => ok_val hs))
  refine Ok.mono (ok_fold0 (fun (p : List Int) (s : List (List Bool)) => s.length = p.length ∧ ∀ (i : Nat) (row : List Bool), s[i]? = some row → RowOk (netR rows).length row (Anc (netR rows) i)) ⟨rfl, fun i b z => by simp at z⟩ fun p x q s e hI => ?_) fun s hs => ⟨by rw [hs.1, rng_len, netR_len]; omega, hs.2⟩
  obtain ⟨ex, el⟩ := rng_split e
  have hx : x = (p.length : Int) := by omega
  subst hx
  have hlt : p.length < rows.length := by omega
  have hrow := List.getElem?_eq_getElem hlt
  obtain ⟨q1, q2, q3⟩ := h _ _ hrow
  have hnet := netR_get hrow
  refine ok_req (cRng_of (by decide) (by decide) (by omega) (by omega)) (ok_bind (P := fun row => RowOk (netR rows).length row (fun j => j = p.length)) (ok_req (szB_of (by rw [rng_len]; omega)) (ok_val ?_)) fun own hown => ?_)
  · rw [netR_len]
    exact row_is.iff fun j => by omega
  refine ok_ofO (atI_ok (by omega) (by rw [Int.toNat_natCast]; exact hrow)) (ok_bind (P := fun row => RowOk (netR rows).length row (Anc (netR rows) p.length)) ?_ fun b hb => ok_req (ltS_of (by rw [hI.1]; omega)) (ok_bindV (ok_val ⟨by simp [hI.1], fun i c z => ?_⟩)))
  · refine Ok.mono (ok_fold0 (fun (d : List Int) (t : List Bool) => RowOk (netR rows).length t (fun j => j = p.length ∨ ∃ k : Nat, (k : Int) ∈ d ∧ Anc (netR rows) k j)) (hown.iff fun j => by simp) fun d y q2 t e3 hJ => ?_) fun t ht => ht.iff fun j => ?_
    · obtain ⟨y0, y1⟩ := q1 y (by rw [e3]; simp)
      obtain ⟨yk, rfl⟩ : ∃ k : Nat, y = k := ⟨y.toNat, by omega⟩
      have hyk : yk < s.length := by rw [hI.1]; omega
      have hfe := List.getElem?_eq_getElem hyk
      have rfe := hI.2 yk _ hfe
      refine ok_req (cRng_of (by decide) (by decide) (by omega) (by omega)) (ok_bind (P := fun t => RowOk (netR rows).length t (fun j => (j = p.length ∨ ∃ k : Nat, (k : Int) ∈ d ∧ Anc (netR rows) k j) ∨ Anc (netR rows) yk j)) (Ok.mono (ok_fold0 (fun (z : List Int) (t : List Bool) => RowOk (netR rows).length t (fun j => (j = p.length ∨ ∃ k : Nat, (k : Int) ∈ d ∧ Anc (netR rows) k j) ∨ (j < z.length ∧ Anc (netR rows) yk j))) (hJ.iff fun j => by simp) fun z w zq t e4 hK => ?_) fun t ht => ht.iff fun j => ?_) fun t ht => ok_val (ht.iff fun j => ?_))
      · obtain ⟨ew, ewl⟩ := rng_split e4
        have hw : w = (z.length : Int) := by omega
        subst hw
        have hzl : z.length < (netR rows).length := by rw [netR_len]; omega
        obtain ⟨b1, g1, g2⟩ := hK.at hzl
        obtain ⟨b2, g3, g4⟩ := rfe.at hzl
        refine ok_bind (P := fun b => b = (b1 || b2)) (ok_bind (P := fun b => b = b1) (ok_ofO (atI_ok (by omega) (by simpa using g1)) (ok_val rfl)) fun b hb => ?_) fun b hb => ok_ofO (ixN_of (by rw [hK.1]; exact hzl)) (ok_val ?_)
        · subst hb
          cases b with
          | true => exact ok_iteT rfl (ok_val rfl)
          | false => exact ok_iteF (by decide) (ok_bind (P := fun b => b = b2) (ok_ofO (atI_ok (by omega) (by rw [Int.toNat_natCast]; exact hfe)) (ok_ofO (atI_ok (by omega) (by simpa using g3)) (ok_val rfl))) fun b hb => ok_val (by rw [hb]; rfl))
        · refine row_set hK ?_ fun j hj => ?_
          · rw [hb, Bool.or_eq_true, g2, g4]
            simp
          · simp only [List.length_append, List.length_singleton]
            constructor
            · rintro (w | ⟨w1, w2⟩)
              · exact .inl w
              · exact .inr ⟨by omega, w2⟩
            · rintro (w | ⟨w1, w2⟩)
              · exact .inl w
              · exact .inr ⟨by omega, w2⟩
      · rw [rng_len]
        constructor
        · rintro (w | w)
          · exact .inl w
          · exact .inr w.2
        · rintro (w | w)
          · exact .inl w
          · exact .inr ⟨by have := anc_le hN w; omega, w⟩
      · constructor
        · rintro ((w | ⟨k, k1, k2⟩) | w)
          · exact .inl w
          · exact .inr ⟨k, by simp [k1], k2⟩
          · exact .inr ⟨yk, by simp, w⟩
        · rintro (w | ⟨k, k1, k2⟩)
          · exact .inl (.inl w)
          · rcases List.mem_append.mp k1 with q | q
            · exact .inl (.inr ⟨k, q, k2⟩)
            · have : k = yk := by simp at q; omega
              subst this; exact .inr k2
    · rw [anc_iff hnet]
      simp only [sortI_mem]
  · by_cases hi : i < s.length
    · rw [List.getElem?_append_left hi] at z
      exact hI.2 i c z
    · have hi2 : i = s.length := by
        have := (List.getElem?_eq_some_iff.mp z).1
        simp at this
        omega
      subst hi2
      simp at z
      subst z
      rw [hI.1]
      exact hb
end PDW


set_option linter.all false
set_option maxRecDepth 100000
set_option autoImplicit false
namespace PDW
open PySem L2 PD
theorem some_ok (f : Fd) {many share : Int} (h0 : 0 < many) (h1 : many ≤ 50) (h2 : 0 ≤ share) (h3 : share ≤ 100) : Ok (m_qsome f many share) (fun r => (∀ e ∈ r.1, 0 ≤ e ∧ e < many) ∧ r.1.length < 64) := by
  unfold m_qsome
  refine ok_ite (fun _ => ok_val ⟨by simp, by simp⟩) fun hs => ?_
  have hs : 0 < share := by simp at hs; omega
  refine ok_req (cRng_of (by decide) (by decide) (by omega) (by omega)) (ok_bind (P := fun r : Fd × List Int => (∀ e ∈ r.2, 0 ≤ e ∧ e < many) ∧ r.2.length ≤ 50) (ok_bindV (ok_req (szB_of (by rw [rng_len]; omega)) (Ok.mono (ok_compR (fun (done : List Int) (ys : List Int) (_ : Fd) => (∀ e ∈ ys, e ∈ done) ∧ ys.length ≤ done.length) (rng 0 many) [] [] f ⟨by simp, by simp⟩ fun p y q ys g e hJ => ?_) fun r hr => ?_))) fun r hr => ?_)
  · refine ok_bind (take_ok g hs (by omega)) fun x _ => ok_bindV (ok_val ?_)
    split
    · refine ok_val ⟨fun e' he => ?_, by simp; exact hJ.2⟩
      rcases List.mem_append.mp he with z | z
      · exact List.mem_append_left _ (hJ.1 e' z)
      · exact List.mem_append_right _ z
    · exact ⟨fun e' he => List.mem_append_left _ (hJ.1 e' he), by simp; have := hJ.2; omega⟩
  · simp only [List.nil_append] at hr
    refine ⟨fun e he => rng_mem.mp (hr.1 e he), ?_⟩
    have := hr.2
    rw [rng_len] at this
    omega
  · refine ok_bind (P := fun r : Int × Fd => 0 ≤ r.1 ∧ r.1 < 3) (ok_bind (P := fun r : Int × Fd => 0 ≤ r.1 ∧ r.1 < 3) (ok_bind (take_ok r.1 (by decide) (by decide)) fun x hx => ok_bindV (ok_val hx)) fun r hr => ok_iteT (cRng_of (by decide) (by decide) (by omega) (by omega)) (ok_val hr)) fun r' hr' => ?_
    refine ok_bind (P := fun s : Fd × List Int => (∀ e ∈ s.2, 0 ≤ e ∧ e < many) ∧ s.2.length < 64) (Ok.mono (ok_fold0 (fun (p : List Int) (s : Fd × List Int) => (∀ e ∈ s.2, 0 ≤ e ∧ e < many) ∧ s.2.length ≤ 50 + p.length) ⟨hr.1, by simpa using hr.2⟩ fun p x q s e hI => ?_) fun s hs => ⟨hs.1, by have := hs.2; rw [rng_len] at this; omega⟩) fun s hs => ok_val hs
    obtain ⟨_, el⟩ := rng_split e
    have hl := hI.2
    refine ok_bind (P := fun j : Fd × List Int => (∀ e ∈ j.2, 0 ≤ e ∧ e < many) ∧ j.2.length ≤ 50 + (p.length + 1)) (ok_ite (fun hne => ?_) fun _ => ok_val ⟨hI.1, by simp only; omega⟩) fun j hj => ok_val ⟨hj.1, by simpa using hj.2⟩
    have hne : s.2 ≠ [] := by simpa using hne
    have hp : 0 < s.2.length := List.length_pos_iff.mpr hne
    refine ok_bind (P := fun j : Fd × List Int => (∀ e ∈ j.2, 0 ≤ e ∧ e < many) ∧ j.2.length ≤ 50 + (p.length + 1)) (ok_bind (P := fun r : Int × Int × Fd => (0 ≤ r.1 ∧ r.1 < 1000) ∧ 0 ≤ r.2.1 ∧ r.2.1 < many) (ok_bind (take_ok s.1 (by omega) (by omega)) fun a ha => ok_bind (P := fun y : Int × Fd => 0 ≤ y.1 ∧ y.1 < many) (ok_bind (P := fun y : Int × Fd => 0 ≤ y.1 ∧ y.1 < many) (ok_bindV (ok_bind (take_ok a.2 (by omega) (by omega)) fun b hb => ?_)) fun y hy => ok_bindV (ok_val hy)) fun y hy => ok_val ⟨⟨ha.1, by simp only; omega⟩, hy⟩) fun r hr => ok_req (cIns_of (by omega) hr.1.1 (by omega)) (ok_val ⟨fun e' he => ?_, by rw [insI_len]; omega⟩)) fun j hj => ok_val hj
    · have hb2 : b.1.toNat < s.2.length := by omega
      exact ok_ofO (atI_ok hb.1 (List.getElem?_eq_getElem hb2)) (ok_val (hI.1 _ (List.getElem_mem hb2)))
    · rcases insI_mem.mp he with z | z
      · rw [z]; exact hr.2
      · exact hI.1 e' z
end PDW


set_option linter.all false
set_option maxRecDepth 100000
set_option autoImplicit false
namespace PDW
open PySem L2 PD
theorem cShl_of {j : Int} (h0 : 0 ≤ j) (h : j < 100000) : cShl 1 j = true := by
  unfold cShl
  rw [decide_eq_true h0, Bool.true_and]
  refine decide_eq_true ?_
  have : Builtin.Int.intBits 1 = 1 := by decide
  rw [this]
  omega
theorem bits_of_ok {net : List (List Int)} (hN : NetOk net) (hn : net.length ≤ 1000) : Ok (m_p_bits_of net) (fun bs => bs.length = net.length ∧ ∀ (i : Nat) (b : Int), bs[i]? = some b → Msk net.length b (Anc net i)) := by
  unfold m_p_bits_of
  refine ok_bindV (ok_bind (P := fun bs : List Int => bs.length = net.length ∧ ∀ (i : Nat) (b : Int), bs[i]? = some b → Msk net.length b (Anc net i)) ?_ fun s hs => ok_val hs)
  refine (ok_fold0 (fun p s => s.length = p.length ∧ ∀ (i : Nat) (b : Int), s[i]? = some b → Msk net.length b (Anc net i)) ⟨rfl, fun i b z => by simp at z⟩ fun p x q s e hI => ?_).mono fun s hs => ⟨by rw [hs.1, enum_len], hs.2⟩
  obtain ⟨e1, e2⟩ := enum_split e
  have hp : p.length < net.length := (List.getElem?_eq_some_iff.mp e2).1
  obtain ⟨r1, r2⟩ := hN _ _ e2
  refine ok_req (cShl_of (by omega) (by omega)) (ok_bindV ?_)
  refine ok_bind (P := fun b => Msk net.length b (Anc net p.length)) ?_ fun b hb => ok_req (ltS_of (by rw [hI.1]; omega)) (ok_bindV (ok_val ⟨by simp [hI.1], fun i c z => ?_⟩))
  · refine (ok_fold0 (fun d t => Msk net.length t (fun j => j = p.length ∨ ∃ k : Nat, (k : Int) ∈ d ∧ Anc net k j)) ?_ fun d y q2 t e3 hJ => ?_).mono fun t ht => ht.iff fun j => (anc_iff e2).symm
    · have h1 := msk_one (k := net.length) (j := p.length) hp
      rw [e1, Int.toNat_natCast]
      exact h1.iff fun j => by simp
    · obtain ⟨y0, y1⟩ := r1 y (by rw [e3]; simp)
      obtain ⟨b, hb⟩ : ∃ b, s[y.toNat]? = some b := ⟨_, List.getElem?_eq_getElem (by rw [hI.1]; omega)⟩
      refine ok_ofO (atI_ok y0 hb) (ok_bindV (ok_val ((msk_or hJ (hI.2 _ _ hb)).iff fun j => ?_)))
      constructor
      · rintro ((z | ⟨k, k1, k2⟩) | z)
        · exact .inl z
        · exact .inr ⟨k, by simp [k1], k2⟩
        · exact .inr ⟨y.toNat, by simp; right; omega, z⟩
      · rintro (z | ⟨k, k1, k2⟩)
        · exact .inl (.inl z)
        · rcases List.mem_append.mp k1 with q | q
          · exact .inl (.inr ⟨k, q, k2⟩)
          · simp at q
            refine .inr ?_
            have : k = y.toNat := by omega
            rw [← this]; exact k2
  · by_cases hi : i < s.length
    · rw [List.getElem?_append_left hi] at z
      exact hI.2 i c z
    · have hi2 : i = s.length := by
        have := (List.getElem?_eq_some_iff.mp z).1
        simp at this
        omega
      subst hi2
      simp at z
      subst z
      rw [hI.1]
      exact hb
end PDW


set_option linter.all false
set_option maxRecDepth 100000
set_option autoImplicit false
namespace PDW
open PySem L2 PD
theorem is_in_ok {n : Nat} {b : Int} {S : Nat → Prop} (h : Msk n b S) {j : Int} (h0 : 0 ≤ j) (h1 : j < 100000) : Ok (m_p_is_in b j) (fun v => v = true ↔ S j.toNat) := by
  unfold m_p_is_in
  have hc : cShr b j = true := by unfold cShr; first | (simp; omega) | exact decide_eq_true (by omega)
  refine ok_req hc (ok_val ?_)
  rw [decide_eq_true_iff, ← h.bit j.toNat]
  obtain ⟨k, rfl⟩ : ∃ k : Nat, j = k := ⟨j.toNat, by omega⟩
  obtain ⟨m, rfl⟩ : ∃ m : Nat, b = m := ⟨b.toNat, by have := h.nn; omega⟩
  simp only [Int.toNat_natCast]
  have e : ((m : Int) / 2 ^ k) = ((m / 2 ^ k : Nat) : Int) := by simp
  rw [e, band_pos (Int.natCast_nonneg _) (by decide)]
  simp only [Int.toNat_natCast]
  rw [show ((1 : Int).toNat) = 1 from rfl, Nat.and_one_is_mod, Nat.testBit_eq_decide_div_mod_eq]
  simp
  omega
end PDW


set_option linter.all false
set_option maxRecDepth 100000
set_option autoImplicit false
namespace PDW
open PySem L2 PD
open Classical in
noncomputable def ancB (net : List (List Int)) (k j : Int) : Bool := decide (Anc net k.toNat j.toNat)
theorem ancB_iff {net : List (List Int)} {k j : Int} : ancB net k j = true ↔ Anc net k.toNat j.toNat := by unfold ancB; simp
/-- the lesser side -/
noncomputable def lesS (net : List (List Int)) (own : List Int) (k : Int) : Int := min2 (((own.filter (ancB net k)).length : Nat) : Int) (((own.length : Nat) : Int) - ((own.filter (ancB net k)).length : Nat))
noncomputable def bstep (net : List (List Int)) (own shut : List Int) (s : Option Int × Int) (x : Int) : Option Int × Int :=
  if x ∉ shut ∧ s.2 < lesS net own x then (some x, lesS net own x) else s
noncomputable def bestS (net : List (List Int)) (own shut : List Int) : Option Int := ((rng 0 (net.length : Int)).foldl (bstep net own shut) (none, 0)).1
theorem fold_pure {α S : Type} {step : S → α → R S} {g : S → α → S} : ∀ {xs : List α} {s : S}, (∀ s, ∀ x ∈ xs, step s x = .val (g s x)) → R.fold step xs s = .val (xs.foldl g s)
  | [], s, _ => rfl
  | x :: xs, s, h => by
    unfold R.fold
    rw [h s x (by simp), bind_v]
    exact fold_pure fun s y hy => h s y (by simp [hy])
theorem bool_eq {a b : Bool} (h : a = true ↔ b = true) : a = b := by cases a <;> cases b <;> simp_all
section
variable {net : List (List Int)} {own shut : List Int}
theorem lesser_eq {bs : List Int} (hb : bs.length = net.length ∧ ∀ (i : Nat) (b : Int), bs[i]? = some b → Msk net.length b (Anc net i)) (ho : ∀ e ∈ own, 0 ≤ e ∧ e < (net.length : Int)) (hn : net.length ≤ 1000) (hl : own.length ≤ 1000) {k : Int} (h0 : 0 ≤ k) (h1 : k < (net.length : Int)) :
    m_p_lesser_side bs own k = .val (lesS net own k) := by
  unfold m_p_lesser_side
  have hk : k.toNat < bs.length := by rw [hb.1]; omega
  have hg := List.getElem?_eq_getElem hk
  have hm := hb.2 _ _ hg
  rw [req_t (szB_of (by omega)), bind_v, ok_comp (b := ancB net k) (v := fun x => x) (fun x hx => ?_) (fun x hx _ => rfl), bind_v, List.map_id']
  · rfl
  · have hx := ho x hx
    rw [atI_ok h0 hg, ofO_s, bind_v]
    obtain ⟨v, e, hv⟩ := is_in_ok hm hx.1 (by omega)
    rw [e]
    congr 1
    exact bool_eq (hv.trans ancB_iff.symm)
theorem evenest_eq {bs : List Int} (hb : bs.length = net.length ∧ ∀ (i : Nat) (b : Int), bs[i]? = some b → Msk net.length b (Anc net i)) (ho : ∀ e ∈ own, 0 ≤ e ∧ e < (net.length : Int)) (hn : net.length ≤ 1000) (hl : own.length ≤ 1000) :
    m_p_evenest bs own shut = .val (bestS net own shut) := by
  unfold m_p_evenest
  rw [bind_v, bind_v, req_t (cRng_of (by decide) (by decide) (by omega) (by omega)), bind_v, fold_pure (g := bstep net own shut) (fun s x hx => ?_), bind_v, hb.1]
  · rfl
  · have hx := rng_mem.mp hx
    rw [hb.1] at hx
    simp only [ninB_int, ofO_s, bind_v, lesser_eq hb ho hn hl hx.1 hx.2]
    unfold bstep
    by_cases h1 : x ∈ shut
    · simp [h1, bind_v]
    · by_cases h2 : s.2 < lesS net own x
      · simp [h1, h2, bind_v]
      · simp [h1, h2, bind_v]
theorem best_eq {rs : List (List Bool)} {makes : List Int} (hr : Reach net rs) (ho : ∀ e ∈ makes, 0 ≤ e ∧ e < (net.length : Int)) (hn : net.length ≤ 1000) (hl : makes.length < 64) :
    m_qbest rs makes shut = .val (bestS net (setI makes) shut) := by
  have hs : (setI makes).length ≤ 64 := by
    have : (setI makes).length ≤ makes.length := by
      have h1 : ∀ (k : Int) (xs : List Int), (insS k xs).length ≤ xs.length + 1 := fun k xs => by
        induction xs with
        | nil => simp [insS]
        | cons y ys ih => unfold insS; split <;> (try split) <;> simp <;> omega
      clear ho hl
      induction makes with
      | nil => simp [setI]
      | cons m ms ih => have := h1 m (setI ms); simp only [setI, List.length_cons]; omega
    omega
  unfold m_qbest
  have hlt : lt64 makes = true := decide_eq_true hl
  rw [bind_v, req_t hlt, bind_v, bind_v, bind_v, bind_v, req_t (cRng_of (by decide) (by decide) (by rw [hr.1]; omega) (by rw [hr.1]; omega)), bind_v, fold_pure (g := bstep net (setI makes) shut) (fun s x hx => ?_), bind_v, hr.1]
  · rfl
  · have hx := rng_mem.mp hx
    rw [hr.1] at hx
    have hk : x.toNat < rs.length := by rw [hr.1]; omega
    have hg := List.getElem?_eq_getElem hk
    have hrow := hr.2 _ _ hg
    rw [req_t (szB_of (by omega)), bind_v, ok_comp (b := ancB net x) (v := fun x => x) (fun y hy => ?_) (fun y hy _ => rfl), bind_v, List.map_id']
    · simp only [ninB_int, ofO_s, bind_v]
      unfold bstep lesS
      by_cases h1 : x ∈ shut
      · simp [h1, bind_v]
      · by_cases h2 : s.2 < min2 (((List.filter (ancB net x) (setI makes)).length : Nat) : Int) (((setI makes).length : Nat) - ((List.filter (ancB net x) (setI makes)).length : Nat))
        · simp [h1, h2, bind_v]
        · simp [h1, h2, bind_v]
    · have hy := ho y (setI_mem.mp hy)
      obtain ⟨c, c1, c2⟩ := hrow.at (j := y.toNat) (by omega)
      rw [atI_ok hx.1 hg, ofO_s, bind_v, atI_ok hy.1 c1, ofO_s, bind_v]
      congr 1
      exact bool_eq (c2.trans ancB_iff.symm)
theorem is_eq (o : Option Int) : m_qis o o = .val true := by
  unfold m_qis
  cases o <;> simp
theorem half_eq {makes : List Int} (hN : NetOk net) (ho : ∀ e ∈ makes, 0 ≤ e ∧ e < (net.length : Int)) (hn : net.length ≤ 1000) (hl : makes.length < 64) : m_p_halving_make net makes shut = .val (bestS net (setI makes) shut) := by
  obtain ⟨bs, e2, h2⟩ := bits_of_ok hN hn
  have hlt : lt64 makes = true := decide_eq_true hl
  have hs : (setI makes).length ≤ 1000 := by
    have := rise_len (xs := setI makes) (S := fun j => (j : Int) ∈ makes) (n := net.length) ⟨setI_rise makes, fun k => ?_⟩ fun j hj => by have := ho _ hj; omega
    · omega
    · rw [setI_mem]
      constructor
      · intro hk
        have := ho k hk
        exact ⟨k.toNat, by show ((k.toNat : Nat) : Int) ∈ makes; rw [show ((k.toNat : Nat) : Int) = k by omega]; exact hk, by omega⟩
      · rintro ⟨j, h1, rfl⟩
        exact h1
  have e := evenest_eq (net := net) (own := setI makes) (shut := shut) h2 (fun e he => ho e (setI_mem.mp he)) hn hs
  have s0 : m_p_some_of shut = .val shut := by unfold m_p_some_of; exact if_neg (by decide)
  unfold m_p_halving_make
  rw [e2, s0, bind_v, bind_v, req_t hlt, bind_v, bind_v, bind_v, bind_v, bind_v, bind_v, bind_v, e]
  rfl
theorem half2_eq {makes : List Int} (hN : NetOk net) (ho : ∀ e ∈ makes, 0 ≤ e ∧ e < (net.length : Int)) (hn : net.length ≤ 1000) (hl : makes.length < 64) : m_p_halving_make_2 net makes () = .val (bestS net (setI makes) []) := by
  have := half_eq (shut := []) hN ho hn hl
  unfold m_p_halving_make m_p_some_of at this
  unfold m_p_halving_make_2 m_p_some_of_2
  exact this
theorem half3_eq {makes : List Int} (hN : NetOk net) (ho : ∀ e ∈ makes, 0 ≤ e ∧ e < (net.length : Int)) (hn : net.length ≤ 1000) (hl : makes.length < 64) : m_p_halving_make_3 net makes () = .val (bestS net (setI makes) []) := by
  have := half_eq (shut := []) hN ho hn hl
  unfold m_p_halving_make m_p_some_of at this
  unfold m_p_halving_make_3 m_p_some_of_2
  exact this
theorem half4_eq {makes : List Int} (hN : NetOk net) (ho : ∀ e ∈ makes, 0 ≤ e ∧ e < (net.length : Int)) (hn : net.length ≤ 1000) (hl : makes.length < 64) : m_p_halving_make_4 net makes shut = .val (bestS net (setI makes) shut) := by
  have := half_eq (shut := shut) hN ho hn hl
  unfold m_p_halving_make m_p_some_of at this
  unfold m_p_halving_make_4 m_p_some_of_3
  exact this
end
theorem law_true (ns : List Int) (h : ns.length ≤ 63) : m_p_law ns = .val true := by
  unfold m_p_law
  refine ok_eq (ok_req (decide_eq_true h) (ok_bind (rows_ok _) fun rw hrw => ?_))
  obtain ⟨rows, f⟩ := rw
  obtain ⟨hR, n1, n2⟩ := hrw
  have hR : RowsOk rows := hR
  have n1 : 1 ≤ rows.length := n1
  have n2 : rows.length ≤ 40 := n2
  refine ok_bindE (net_of_eq hR n1 n2) (ok_bind (comings_ok hR (by omega)) fun rs hrs => ?_)
  have hN := net_ok hR
  have hln := netR_len rows
  refine ok_req (cRng_of (by decide) (by decide) (by decide) (by decide)) ?_
  refine ok_bind (ok_loop (fun _ _ => True) (rng 0 5) [] f trivial fun p x q s e _ => ?_) fun w ⟨s', hw, _⟩ => by subst hw; exact ok_val rfl
  have nl : (0 : Int) < (rows.length : Int) ∧ (rows.length : Int) ≤ 40 := by omega
  refine ok_bind (P := fun r : List Int × Fd => (∀ e ∈ r.1, 0 ≤ e ∧ e < (rows.length : Int)) ∧ r.1.length < 64) ?_ fun mk hmk => ?_
  · simp only [bind_v]
    refine ok_bind (P := fun a : Int × Int × Fd => a.1 = (rows.length : Int) ∧ 0 ≤ a.2.1 ∧ a.2.1 ≤ 3) ?_ fun a ha => ok_bind (some_ok a.2.2 (by omega) (by omega) ha.2.1 (by omega)) fun r hr => ok_val (by rw [← ha.1]; exact hr)
    refine ok_bind (P := fun a : Int × Int × Fd => a.1 = (rows.length : Int) ∧ 0 ≤ a.2.1 ∧ a.2.1 ≤ 3) (ok_bind (P := fun a : Int × Fd => 0 ≤ a.1 ∧ a.1 ≤ 3) (ok_bind (P := fun a : Int × Fd => 0 ≤ a.1 ∧ a.1 ≤ 3) (ok_bind (take_ok s (by decide) (by decide)) fun r hr => ok_val ⟨by simp only; omega, by simp only; omega⟩) fun r hr => ok_val hr) fun r hr => ok_val ⟨rfl, hr⟩) fun r hr => ok_val hr
  refine ok_bind (P := fun r : Fd × List Int => (∀ e ∈ r.2, 0 ≤ e ∧ e < (rows.length : Int)) ∧ r.2.length < 64) (ok_ite (fun _ => ?_) fun _ => ok_val hmk) fun j hj => ?_
  · refine ok_bind (P := fun r : Int × Fd => 0 ≤ r.1 ∧ r.1 < (rows.length : Int)) (ok_bind (take_ok mk.2 nl.1 (by omega)) fun r hr => ok_bindV (ok_val hr)) fun r hr => ok_val ⟨by simpa using hr, by simp⟩
  refine ok_bind (P := fun r : List Int × Fd => (∀ e ∈ r.1, 0 ≤ e ∧ e < (rows.length : Int)) ∧ r.1.length < 64) ?_ fun sh hsh => ?_
  · simp only [bind_v]
    refine ok_bind (P := fun a : Int × Int × Fd => a.1 = (rows.length : Int) ∧ 0 ≤ a.2.1 ∧ a.2.1 ≤ 8) ?_ fun a ha => ok_bind (some_ok a.2.2 (by omega) (by omega) ha.2.1 (by omega)) fun r hr => ok_val (by rw [← ha.1]; exact hr)
    refine ok_bind (P := fun a : Int × Int × Fd => a.1 = (rows.length : Int) ∧ 0 ≤ a.2.1 ∧ a.2.1 ≤ 8) (ok_bind (P := fun a : Int × Fd => 0 ≤ a.1 ∧ a.1 ≤ 8) (ok_bind (P := fun a : Int × Fd => 0 ≤ a.1 ∧ a.1 ≤ 8) (ok_bind (take_ok j.1 (by decide) (by decide)) fun r hr => ?_) fun r hr => ok_val hr) fun r hr => ok_val ⟨rfl, hr⟩) fun r hr => ok_val hr
    have hlt : r.1.toNat < ([0, 2, 3, 4, 8, 1] : List Int).length := by simp; omega
    refine ok_ofO (atI_ok hr.1 (List.getElem?_eq_getElem hlt)) (ok_val ?_)
    have : ∀ z ∈ ([0, 2, 3, 4, 8, 1] : List Int), 0 ≤ z ∧ z ≤ 8 := by decide
    exact this _ (List.getElem_mem hlt)
  have hm : ∀ e ∈ j.2, 0 ≤ e ∧ e < ((netR rows).length : Int) := by rw [hln]; exact hj.1
  have hn : (netR rows).length ≤ 1000 := by omega
  have b1 := best_eq (shut := sh.1) hrs hm hn hj.2
  have b2 := best_eq (shut := []) hrs hm hn hj.2
  have c1 := half_eq (shut := sh.1) hN hm hn hj.2
  have c2 := half2_eq hN hm hn hj.2
  have c3 := half3_eq hN hm hn hj.2
  have c4 := half4_eq (shut := sh.1) hN hm hn hj.2
  have a0 : atI [j.2, sh.1] (0 : Int) = some j.2 := rfl
  have a1 : atI [j.2, sh.1] (1 : Int) = some sh.1 := rfl
  refine ok_bindV (ok_req (cRng_of (by decide) (by decide) (by decide) (by decide)) (ok_loopU (fun k hk => ?_) ?_))
  · simp only [a0, a1, ofO_s, bind_v, c1, b1, is_eq, Bool.not_true, Bool.false_eq_true, if_false]
    exact ok_val rfl
  · simp only [c2, c3, c4, b1, b2, is_eq, bind_v, nox_v, Bool.not_true, Bool.false_eq_true, if_false, decide_true]
    exact ok_val ⟨_, rfl, trivial⟩
end PDW


set_option Elab.async false
set_option linter.all false
set_option maxRecDepth 100000
set_option maxHeartbeats 0
namespace PDW
open PySem PySem.Spec PyProof.Rows L2 PD
def dd0 : He.DefD := ⟨("law", none), "law", "law", defArgs (top 24), defBody (top 24), defScope (top 24), [], []⟩
def dd1 : He.DefD := ⟨("_law_feed", none), "_law_feed", "_law_feed", defArgs (top 16), defBody (top 16), defScope (top 16), [], []⟩
def dd2 : He.DefD := ⟨("_law_rows", none), "_law_rows", "_law_rows", defArgs (top 19), defBody (top 19), defScope (top 19), [], []⟩
def dd3 : He.DefD := ⟨("_law_take", none), "_law_take", "_law_take", defArgs (top 17), defBody (top 17), defScope (top 17), [], []⟩
def dd4 : He.DefD := ⟨("_law_elders", none), "_law_elders", "_law_elders", defArgs (top 18), defBody (top 18), defScope (top 18), [], []⟩
def dd5 : He.DefD := ⟨("net_of", none), "net_of", "net_of", defArgs (top 14), defBody (top 14), defScope (top 14), [], []⟩
def dd6 : He.DefD := ⟨("are_elders", none), "are_elders", "are_elders", defArgs (top 13), defBody (top 13), defScope (top 13), [], []⟩
def dd7 : He.DefD := ⟨("_law_comings", none), "_law_comings", "_law_comings", defArgs (top 20), defBody (top 20), defScope (top 20), [], []⟩
def dd8 : He.DefD := ⟨("_law_some", none), "_law_some", "_law_some", defArgs (top 21), defBody (top 21), defScope (top 21), [], []⟩
def dd9 : He.DefD := ⟨("halving_make", none), "halving_make", "halving_make", defArgs (top 10), defBody (top 10), defScope (top 10), [.non], []⟩
def dd10 : He.DefD := ⟨("bits_of", none), "bits_of", "bits_of", defArgs (top 4), defBody (top 4), defScope (top 4), [], []⟩
def dd11 : He.DefD := ⟨("some_of", none), "some_of", "some_of", defArgs (top 5), defBody (top 5), defScope (top 5), [], []⟩
def dd12 : He.DefD := ⟨("evenest", none), "evenest", "evenest", defArgs (top 9), defBody (top 9), defScope (top 9), [], []⟩
def dd13 : He.DefD := ⟨("lesser_side", none), "lesser_side", "lesser_side", defArgs (top 8), defBody (top 8), defScope (top 8), [], []⟩
def dd14 : He.DefD := ⟨("is_in", none), "is_in", "is_in", defArgs (top 6), defBody (top 6), defScope (top 6), [], []⟩
def dd15 : He.DefD := ⟨("_law_best", none), "_law_best", "_law_best", defArgs (top 22), defBody (top 22), defScope (top 22), [], []⟩
def dd16 : He.DefD := ⟨("_law_is", none), "_law_is", "_law_is", defArgs (top 23), defBody (top 23), defScope (top 23), [], []⟩
def fnD : List He.DefD := [dd0, dd1, dd2, dd3, dd4, dd5, dd6, dd7, dd8, dd9, dd10, dd11, dd12, dd13, dd14, dd15, dd16]
def faD : List He.Fa := [.glo "law", .glo "_law_feed", .glo "_law_rows", .glo "_law_take", .glo "_law_elders", .glo "net_of", .glo "are_elders", .glo "_law_comings", .glo "_law_some", .glo "halving_make", .glo "bits_of", .glo "some_of", .glo "evenest", .glo "lesser_side", .glo "is_in", .glo "_law_best", .glo "_law_is", .free "list", .free "range", .free "len", .free "enumerate", .free "set", .free "tuple", .free "sorted", .free "min", .free "isinstance", .free "int", .free "bool", .int "MOST" 40]
abbrev RR : PySem.W.OpenRow := PySem.W.OpenLaw.row PySem.Challenge.rw_badbegins_k40_halving_makes
abbrev hkD : PySem.W.Hook := He.hookD 4 faD fnD
def obD (z : PySem.W.SharedT) : He.AlD := He.obsDG 4 faD fnD (HandSHeadRun.getT z)
theorem obD_eq (z : PySem.W.SharedT) : obD z = hkD.obs z.abs := He.obsDG_eq (HandSHeadRun.getT_eq z)
def looseD : List Str := ["HuntError", "NoNet", "bits_of", "some_of", "is_in", "lesser_side", "evenest", "halving_make", "MOST", "are_elders", "net_of", "_law_feed", "_law_take", "_law_elders", "_law_rows", "_law_comings", "_law_some", "_law_best", "_law_is"]
theorem runD (w : World) : HandSHeadRun.RunEq RR (PySem.W.view RR.prog [24]) hkD obD 4000 looseD w := by
  intro os
  kernel_rfl
theorem envD {K : PySem.W.Frag} {hp : Heap} {mg : Str → Option Value} (X : K.In hp) (G : hp.Ns mainGlobals mg) (c : He.SaysD faD fnD K) : Env K mg where
  d_p_law := ⟨_, _, (c.def_ 0 (d := dd0) rfl).choose_spec, He.glo_ok X G (c.fact 0 (f := .glo "law") rfl)⟩
  d_qfeed := ⟨_, _, (c.def_ 1 (d := dd1) rfl).choose_spec, He.glo_ok X G (c.fact 1 (f := .glo "_law_feed") rfl)⟩
  d_qrows := ⟨_, _, (c.def_ 2 (d := dd2) rfl).choose_spec, He.glo_ok X G (c.fact 2 (f := .glo "_law_rows") rfl)⟩
  d_qtake := ⟨_, _, (c.def_ 3 (d := dd3) rfl).choose_spec, He.glo_ok X G (c.fact 3 (f := .glo "_law_take") rfl)⟩
  d_qelders := ⟨_, _, (c.def_ 4 (d := dd4) rfl).choose_spec, He.glo_ok X G (c.fact 4 (f := .glo "_law_elders") rfl)⟩
  d_p_net_of := ⟨_, _, (c.def_ 5 (d := dd5) rfl).choose_spec, He.glo_ok X G (c.fact 5 (f := .glo "net_of") rfl)⟩
  d_p_are_elders := ⟨_, _, (c.def_ 6 (d := dd6) rfl).choose_spec, He.glo_ok X G (c.fact 6 (f := .glo "are_elders") rfl)⟩
  d_qcomings := ⟨_, _, (c.def_ 7 (d := dd7) rfl).choose_spec, He.glo_ok X G (c.fact 7 (f := .glo "_law_comings") rfl)⟩
  d_qsome := ⟨_, _, (c.def_ 8 (d := dd8) rfl).choose_spec, He.glo_ok X G (c.fact 8 (f := .glo "_law_some") rfl)⟩
  d_p_halving_make := ⟨_, _, (c.def_ 9 (d := dd9) rfl).choose_spec, He.glo_ok X G (c.fact 9 (f := .glo "halving_make") rfl)⟩
  d_p_bits_of := ⟨_, _, (c.def_ 10 (d := dd10) rfl).choose_spec, He.glo_ok X G (c.fact 10 (f := .glo "bits_of") rfl)⟩
  d_p_some_of := ⟨_, _, (c.def_ 11 (d := dd11) rfl).choose_spec, He.glo_ok X G (c.fact 11 (f := .glo "some_of") rfl)⟩
  d_p_evenest := ⟨_, _, (c.def_ 12 (d := dd12) rfl).choose_spec, He.glo_ok X G (c.fact 12 (f := .glo "evenest") rfl)⟩
  d_p_lesser_side := ⟨_, _, (c.def_ 13 (d := dd13) rfl).choose_spec, He.glo_ok X G (c.fact 13 (f := .glo "lesser_side") rfl)⟩
  d_p_is_in := ⟨_, _, (c.def_ 14 (d := dd14) rfl).choose_spec, He.glo_ok X G (c.fact 14 (f := .glo "is_in") rfl)⟩
  d_qbest := ⟨_, _, (c.def_ 15 (d := dd15) rfl).choose_spec, He.glo_ok X G (c.fact 15 (f := .glo "_law_best") rfl)⟩
  d_qis := ⟨_, _, (c.def_ 16 (d := dd16) rfl).choose_spec, He.glo_ok X G (c.fact 16 (f := .glo "_law_is") rfl)⟩
  b_list := He.free_ok X G (c.fact 17 (f := .free "list") rfl)
  b_range := He.free_ok X G (c.fact 18 (f := .free "range") rfl)
  b_len := He.free_ok X G (c.fact 19 (f := .free "len") rfl)
  b_enumerate := He.free_ok X G (c.fact 20 (f := .free "enumerate") rfl)
  b_set := He.free_ok X G (c.fact 21 (f := .free "set") rfl)
  b_tuple := He.free_ok X G (c.fact 22 (f := .free "tuple") rfl)
  b_sorted := He.free_ok X G (c.fact 23 (f := .free "sorted") rfl)
  b_min := He.free_ok X G (c.fact 24 (f := .free "min") rfl)
  b_isinstance := He.free_ok X G (c.fact 25 (f := .free "isinstance") rfl)
  b_int := He.free_ok X G (c.fact 26 (f := .free "int") rfl)
  b_bool := He.free_ok X G (c.fact 27 (f := .free "bool") rfl)
  g_MOST := He.int_ok X G (c.fact 28 (f := .int "MOST" 40) rfl)
theorem lawD {P : Program} {w : World} {K : PySem.W.Frag} {hp : Heap} {mg : Str → Option Value} {f : Addr} (X : K.In hp) (G : hp.Ns mainGlobals mg) (hf : mg ("law" : Str) = some (.ref f)) (c : He.SaysD faD fnD K) :
    ∃ fd : FuncData, (∀ (z : Shared) (v : Value), BindsTo z fd ⟨[v], []⟩ [("_law_script", v)]) ∧ ∀ base : Heap, FnOk P w K mg base (L2.CX P w) 5 f fd ["_law_script"] (spP K mg (fun t : (List Int) => [(PyData.list (List.map PyData.int t))]) (fun t => m_p_law t) (fun w : Bool => Rs.d (PyData.bool w))) := by
  obtain ⟨fd, F⟩ := c.def_ 0 (d := dd0) rfl
  have e := hf.symm.trans (He.glo_ok X G (c.fact 0 (f := .glo "law") rfl))
  cases e
  have b := FunD.bindsA (ps := ["_law_script"]) F fun _ _ _ _ _ _ us hl => match us, hl with | [_], _ => rfl
  exact ⟨fd, fun z v => b z [v] rfl, fun base => ok_of_law (envD X G c) F⟩
theorem spD {K : PySem.W.Frag} {mg : Str → Option Value} {H : Hp} {a : Addr} {ns : List Int} (hl : ns.length ≤ 63) (hS : SqL K H a (ns.map V.int)) : (spP K mg (fun t : (List Int) => [(PyData.list (List.map PyData.int t))]) (fun t => m_p_law t) (fun w : Bool => Rs.d (PyData.bool w))) [.ref a] H (fun v _ => v = .bl true) fun _ _ _ => False := by
  refine ⟨ns, .cons (.lst (LsR.of_sq hS) (ints_dna ns)) .nil, ?_⟩
  dsimp only
  rw [law_true ns hl]
  exact fun H' N _ _ v hv => dn_bool hv
theorem walkD {l : PySem.W.OpenLaw} {n k : Nat} {q : Program} {loose : List Str} {XP : (Str → Option Value) → Heap → Prop} {YP : World → Heap → Prop} {d : DefRec} {x : Str} (hn : l.most = some n) (hn2 : n ≤ sizeLine) (hdf : d.params.defaults = []) (hr : Room k callerA)
    (F : ∀ (w : World) (mg : Str → Option Value) (fa : Addr) (h : Heap), YP w h → h.Ns mainGlobals mg → mg d.name = some (.ref fa) →
      ∃ (K : PySem.W.Frag) (fd : FuncData) (sp : Sp), K.In h ∧ (∀ (z : Shared) (u : Value), BindsTo z fd ⟨[u], []⟩ [(x, u)]) ∧
        (∀ (H : Hp) (a : Addr) (ns : List Int), ns.length ≤ n → Only H → SqL K H a (ns.map V.int) → sp [.ref a] H (fun v _ => v = .bl true) fun _ _ _ => False) ∧
        ∀ base : Heap, K.In base → base.Ns mainGlobals mg → FnOk l.prog w K mg base (L2.CX l.prog w) k fa fd [x] sp) :
    PySem.W.WalkO q loose XP YP l.row.toRowW d [] (fun f vs => PySem.call f vs) := by
  refine Att.attach_call hn hdf fun w s0 s1 mg mb fa o pm cd doc a vs ns G Y ho hd hcd hmg hobj hints hlen hg => ?_
  obtain ⟨K, fd, sp, KX, hb, hsp, hF⟩ := F w mg fa _ Y G.T.g hmg
  exact law_call KX G.T.g G.T.b G.T.builtins G.T.nolimit hg hobj hints (Nat.le_trans hlen hn2) hr hF hb (fun H hO hS => hsp H a ns hlen hO hS) fun H e s' ⟨_, _, _, _, _, _, _, _, _, _, _, _, z⟩ => z
end PDW
open PySem PySem.W PySem.Calls PyProof.Rows
theorem PySem.Challenge.cw_badbegins_k40_halving_makes_holds : PySem.Challenge.rw_badbegins_k40_halving_makes.Holds := by
  w_on; o_law
  refine HandSHeadRun.head_any (r := OpenLaw.row PySem.Challenge.rw_badbegins_k40_halving_makes) (q := view (OpenLaw.row PySem.Challenge.rw_badbegins_k40_halving_makes).prog [24]) (H := PDW.hkD) (ob := PDW.obD) (M := 4000) (loose := PDW.looseD) (d := HandSHeadRun.topDef (OpenLaw.row PySem.Challenge.rw_badbegins_k40_halving_makes).prog 24) (kwd := []) PDW.obD_eq
    (by kernel_rfl) (fun z => by kernel_rfl) PDW.runD (by kernel_rfl) (by kernel_rfl) (by kernel_rfl) (by rfl) (by first | assumption | decide +kernel) (by decide +kernel) ⟨rfl, rfl, rfl, rfl, rfl, by decide +kernel⟩ ?hw ?hc
  case hw => w_witness2
  case hc =>
    refine PDW.walkD (l := PySem.Challenge.rw_badbegins_k40_halving_makes) (n := 63) (k := 5) (x := "_law_script") rfl (by decide) (by kernel_rfl) ⟨rfl, by decide, by decide⟩ ?F
    intro w mg fa hp Y G hmg0
    obtain ⟨K, KX, c⟩ := Y
    have hmg : mg ("law" : PySem.Str) = some (.ref fa) := by
      have e : (HandSHeadRun.topDef (OpenLaw.row PySem.Challenge.rw_badbegins_k40_halving_makes).prog 24).name = ("law" : PySem.Str) := by kernel_rfl
      rw [← e]
      exact hmg0
    obtain ⟨fd, hb, hF⟩ := PDW.lawD (P := PySem.Challenge.rw_badbegins_k40_halving_makes.prog) (w := w) KX G hmg c
    exact ⟨K, fd, _, KX, hb, fun H a ns hl _ hS => PDW.spD hl hS, fun base _ _ => hF base⟩


