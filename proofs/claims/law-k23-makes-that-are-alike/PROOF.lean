import PyProof.Rows.All
import Wide.All
import OpenK.AllK
import Wide.FinOn
import HandS.Dict
import KE.KeyNested
import HandS.ForMost
import HandS.ForExc
import HandS.CallSlots
import HandS.Defaults
import HandS.HeadHook2
import HandS.IsInst
import HandS.SortInts
import HandS.Wide
import HandS.WideBits
import HandS.More
import HandS.TupAny
import HandS.Deep
import HandS.Zip
import HandS.Iter
import HandS.Lambda
import KE.GoesEnum
import HandS.SetFor
import HandS.Strs
import HandS.Comp
import HandS.Style
import HandS.Text
import HandS.TupSets
import HandS.Conv
import HandS.Zip0
import HandS.TupLe
import HandS.ExcInit
import HandS.ExcOwn
import HandS.ExcValue
import HandS.ExcField
import KE.KExcIs
import KE.KIsAll
import HandS.HotCalls
import KE.SortData
import KE.KDictSum
import HandS.TupMul
import KE.DataCmp
import KE.DataMinMax
import KE.KDictDisplayH
import KE.KDictCopyH
import HandS.Rev
import HandS.SortKw
import KE.SortKeyHeap
import KE.KDictWalk
import HandS.Codes
import KE.KMinKey
import KE.DataMinKey
import KE.OsArith
import HandS.Base
import HandS.Call
import HandS.Ends
import HandS.Words
import HandS.WordsExc
import HandS.Head0
import HandS.Head1
import HandS.Head2
import HandS.HeadEnd
import HandS.HeadHook1
import KE.KStateDown
import Lean
import PySem.Challenge.RW_badbegins_k23_makes_that_are_alike
set_option Elab.async false
set_option linter.all false
set_option maxRecDepth 100000
set_option maxHeartbeats 4000000
set_option autoImplicit false
namespace PD
open PySem PySem.Spec L2
open PyProof.Rows hiding St
mutual
def nkD : PyData → Option NestedKey
  | .none => some .none
  | .bool b => some (.num (if b then 1 else 0))
  | .int i => some (.num i)
  | .tuple xs => (nkDs xs).map .tup
  | _ => none
def nkDs : List PyData → Option (List NestedKey)
  | [] => some []
  | x :: xs => match nkD x with
    | some k => (nkDs xs).map (k :: ·)
    | none => none
end
mutual
def noT : NestedKey → Bool
  | .text _ => false
  | .tup ks => noTs ks
  | _ => true
def noTs : List NestedKey → Bool
  | [] => true
  | k :: ks => noT k && noTs ks
end
mutual
theorem hash_any (w w' : World) : ∀ k : NestedKey, noT k = true → k.hash w = k.hash w'
  | .none, _ => by rw [NestedKey.hash, NestedKey.hash]
  | .num i, _ => by rw [NestedKey.hash, NestedKey.hash]
  | .text x, h => by rw [noT] at h; cases h
  | .tup ks, h => by
    rw [noT] at h
    rw [NestedKey.hash, NestedKey.hash, hashes_any w w' ks h]
theorem hashes_any (w w' : World) : ∀ ks : List NestedKey, noTs ks = true → NestedKey.hashes w ks = NestedKey.hashes w' ks
  | [], _ => by rw [NestedKey.hashes, NestedKey.hashes]
  | k :: ks, h => by
    rw [noTs, Bool.and_eq_true] at h
    rw [NestedKey.hashes, NestedKey.hashes, hash_any w w' k h.1, hashes_any w w' ks h.2]
end
mutual
theorem nkD_noT : ∀ (d : PyData) (k : NestedKey), nkD d = some k → noT k = true
  | .none, k, h => by rw [nkD] at h; cases h; rw [noT]; all_goals (intros; rename_i e; cases e)
  | .bool b, k, h => by rw [nkD] at h; cases h; rw [noT]; all_goals (intros; rename_i e; cases e)
  | .int i, k, h => by rw [nkD] at h; cases h; rw [noT]; all_goals (intros; rename_i e; cases e)
  | .tuple xs, k, h => by
    rw [nkD] at h
    cases e : nkDs xs with
    | none => rw [e] at h; cases h
    | some ks => rw [e] at h; cases h; rw [noT]; exact nkDs_noT xs ks e
  | .str x, k, h => by simp [nkD] at h
  | .list xs, k, h => by simp [nkD] at h
  | .dict xs, k, h => by simp [nkD] at h
theorem nkDs_noT : ∀ (ds : List PyData) (ks : List NestedKey), nkDs ds = some ks → noTs ks = true
  | [], ks, h => by rw [nkDs] at h; cases h; rw [noTs]
  | d :: ds, ks, h => by
    rw [nkDs] at h
    cases e : nkD d with
    | none => rw [e] at h; cases h
    | some k =>
      rw [e] at h
      cases e2 : nkDs ds with
      | none => rw [e2] at h; cases h
      | some ks2 =>
        rw [e2] at h; cases h
        rw [noTs, nkD_noT d k e, nkDs_noT ds ks2 e2]; rfl
end
def NdP (a : Addr) (rs : List (NestedKey × Addr × V)) : Heap → Prop := fun h => rs.length ≤ sizeLine ∧ (a == sysModules) = false ∧ (∀ r ∈ rs, noT r.1 = true) ∧
  ∃ (w' : World) (xs : List (NestedKey × Addr × Value)) (o : Obj) (es : Array DictEntry) (ep : Nat), Paired (fun (p : NestedKey × Addr × V) (q : NestedKey × Addr × Value) => p.1 = q.1 ∧ p.2.1 = q.2.1 ∧ RelV p.2.2 q.2.2) rs xs ∧
    h.get? a = some o ∧ o.ExactDict ∧ o.data = .dict es ep ∧ es.toList = xs.map (fun x => (⟨x.1.hash w', .ref x.2.1, x.2.2⟩ : DictEntry)) ∧ (xs.map (·.1)).Nodup
def NdO (a : Addr) (rs : List (NestedKey × Addr × V)) : HO := .ext (NdP a rs)
theorem nd_obj {P : Program} {w : World} {H : Hp} {h : Heap} {a : Addr} {rs : List (NestedKey × Addr × V)} (n : NdP a rs h) : ObjOk P w H h a (NdO a rs) := by
  refine ⟨n, ?_, ?_⟩
  · obtain ⟨_, _, _, _, _, o, _, _, _, ho, _⟩ := n
    exact ⟨o, ho⟩
  · rintro h1 h2 ⟨n1, n2, n3, w', xs, o, es, ep, r, ho, q⟩ k
    exact ⟨n1, n2, n3, w', xs, o, es, ep, r, k o ho, q⟩
theorem nd_of_ok {P : Program} {w : World} {H : Hp} {h : Heap} {a : Addr} {rs : List (NestedKey × Addr × V)} (n : ObjOk P w H h a (NdO a rs)) : NdP a rs h := n.1
abbrev NdPair : NestedKey × Addr × V → NestedKey × Addr × Value → Prop := fun p q => p.1 = q.1 ∧ p.2.1 = q.2.1 ∧ RelV p.2.2 q.2.2
def ndGet (rs : List (NestedKey × Addr × V)) (k : NestedKey) : Option V := (rs.find? fun r => decide (r.1 = k)).map (·.2.2)
def ndPut (rs : List (NestedKey × Addr × V)) (k : NestedKey) (b : Addr) (v : V) : List (NestedKey × Addr × V) := if rs.any (fun r => decide (r.1 = k)) then rs.map (fun r => if r.1 = k then (r.1, r.2.1, v) else r) else rs ++ [(k, b, v)]
theorem nd_get {k : NestedKey} : ∀ {rs : List (NestedKey × Addr × V)} {xs : List (NestedKey × Addr × Value)}, Paired NdPair rs xs → (ndGet rs k = none ∧ atKey xs k = none) ∨ ∃ v p, ndGet rs k = some v ∧ atKey xs k = some p ∧ RelV v p.2
  | _, _, .nil => .inl ⟨rfl, rfl⟩
  | r :: rs, x :: xs, .cons h t => by
    obtain ⟨h1, h2, h3⟩ := h
    by_cases e : r.1 = k
    · refine .inr ⟨r.2.2, x.2, ?_, ?_, h3⟩
      · simp [ndGet, e]
      · simp [atKey, ← h1, e]
    · have e2 : ¬ x.1 = k := by rw [← h1]; exact e
      have g1 : ndGet (r :: rs) k = ndGet rs k := by simp [ndGet, List.find?_cons, e]
      have g2 : atKey (x :: xs) k = atKey xs k := by simp [atKey, List.find?_cons, e2]
      rw [g1, g2]
      exact nd_get t
theorem nd_any {k : NestedKey} : ∀ {rs : List (NestedKey × Addr × V)} {xs : List (NestedKey × Addr × Value)}, Paired NdPair rs xs → rs.any (fun r => decide (r.1 = k)) = (atKey xs k).isSome
  | _, _, .nil => rfl
  | r :: rs, x :: xs, .cons h t => by
    obtain ⟨h1, _, _⟩ := h
    by_cases e : r.1 = k
    · simp [atKey, ← h1, e]
    · have e2 : ¬ x.1 = k := by rw [← h1]; exact e
      have g2 : atKey (x :: xs) k = atKey xs k := by simp [atKey, List.find?_cons, e2]
      rw [g2, List.any_cons, decide_eq_false e, Bool.false_or]
      exact nd_any t
theorem nd_map {k : NestedKey} {v : V} {u : Value} (hv : RelV v u) : ∀ {rs : List (NestedKey × Addr × V)} {xs : List (NestedKey × Addr × Value)}, Paired NdPair rs xs → Paired NdPair (rs.map (fun r => if r.1 = k then (r.1, r.2.1, v) else r)) (xs.map (putAt k u))
  | _, _, .nil => .nil
  | r :: rs, x :: xs, .cons h t => by
    obtain ⟨h1, h2, h3⟩ := h
    refine .cons ?_ (nd_map hv t)
    unfold putAt
    show NdPair (if r.1 = k then (r.1, r.2.1, v) else r) _
    by_cases e : r.1 = k
    · rw [if_pos e, if_pos (by rw [← h1]; exact e)]; exact ⟨h1, h2, hv⟩
    · rw [if_neg e, if_neg (by rw [← h1]; exact e)]; exact ⟨h1, h2, h3⟩
theorem nd_snoc {rs : List (NestedKey × Addr × V)} {xs : List (NestedKey × Addr × Value)} (h : Paired NdPair rs xs) {r : NestedKey × Addr × V} {x : NestedKey × Addr × Value} (e : NdPair r x) : Paired NdPair (rs ++ [r]) (xs ++ [x]) := by
  induction h with
  | nil => exact .cons e .nil
  | cons a _ ih => exact .cons a ih
theorem nd_put {k : NestedKey} {b : Addr} {v : V} {u : Value} (hv : RelV v u) {rs : List (NestedKey × Addr × V)} {xs : List (NestedKey × Addr × Value)} (h : Paired NdPair rs xs) : Paired NdPair (ndPut rs k b v) (storedH xs k b u) := by
  unfold ndPut storedH
  rw [nd_any h]
  split
  · exact nd_map hv h
  · exact nd_snoc h ⟨rfl, rfl, hv⟩
theorem nd_rd {P : Program} {w : World} {h : Heap} {a : Addr} {rs : List (NestedKey × Addr × V)} (n : NdP a rs h) (hk : ∀ r ∈ rs, (nestedKind P w).is h r.1 r.2.1) : ∃ xs, Paired NdPair rs xs ∧ h.DictOfH (nestedKind P w) a xs := by
  obtain ⟨n1, n2, n3, w', xs, o, es, ep, r, ho, hx, hd, he, hn⟩ := n
  have all : ∀ {l : List (NestedKey × Addr × V)} {m : List (NestedKey × Addr × Value)}, Paired NdPair l m → (∀ r ∈ l, noT r.1 = true) → (∀ r ∈ l, (nestedKind P w).is h r.1 r.2.1) → (∀ x ∈ m, (nestedKind P w).is h x.1 x.2.1) ∧ m.map (fun x => (⟨x.1.hash w', .ref x.2.1, x.2.2⟩ : DictEntry)) = m.map (entryOfKey (nestedKind P w)) := by
    intro l m q
    induction q with
    | nil => intro _ _; exact ⟨(fun x hx => nomatch hx), rfl⟩
    | @cons p y ps ys hq t ih =>
      intro c1 c2
      obtain ⟨i1, i2⟩ := ih (fun r hr => c1 r (List.mem_cons_of_mem _ hr)) fun r hr => c2 r (List.mem_cons_of_mem _ hr)
      have e1 := c1 p List.mem_cons_self
      have e2 := c2 p List.mem_cons_self
      obtain ⟨h1, h2, _⟩ := hq
      refine ⟨fun x hx => ?_, ?_⟩
      · rcases List.mem_cons.mp hx with e | hx
        · subst e; rw [← h1, ← h2]; exact e2
        · exact i1 x hx
      · rw [List.map_cons, List.map_cons, i2]
        congr 1
        unfold entryOfKey
        have : y.1.hash w' = (nestedKind P w).hash y.1 := by rw [← h1]; exact hash_any w' w _ e1
        rw [← this]
  obtain ⟨a1, a2⟩ := all r n3 hk
  exact ⟨xs, r, o, es, ep, ho, hx, hd, by rw [he, a2], a1, hn⟩
theorem nd_wr {P : Program} {w : World} {h' : Heap} {a : Addr} {rs : List (NestedKey × Addr × V)} {xs : List (NestedKey × Addr × Value)} (hl : rs.length ≤ sizeLine) (ha : (a == sysModules) = false) (hn : ∀ r ∈ rs, noT r.1 = true) (r : Paired NdPair rs xs) (dd : h'.DictOfH (nestedKind P w) a xs) : NdP a rs h' := by
  obtain ⟨o, es, ep, ho, hx, hd, he, _, hnd⟩ := dd
  exact ⟨hl, ha, hn, w, xs, o, es, ep, r, ho, hx, hd, he, hnd⟩
theorem ndPut_noT {rs : List (NestedKey × Addr × V)} {k : NestedKey} {b : Addr} {v : V} (h : ∀ r ∈ rs, noT r.1 = true) (hk : noT k = true) : ∀ r ∈ ndPut rs k b v, noT r.1 = true := by
  unfold ndPut
  split
  · intro r hr
    obtain ⟨x, hx, rfl⟩ := List.mem_map.mp hr
    split
    · exact h x hx
    · exact h x hx
  · intro r hr
    rcases List.mem_append.mp hr with hr | hr
    · exact h r hr
    · have : r = (k, b, v) := by simpa using hr
      subst this; exact hk
theorem ndPut_len (rs : List (NestedKey × Addr × V)) (k : NestedKey) (b : Addr) (v : V) : (ndPut rs k b v).length ≤ rs.length + 1 := by
  unfold ndPut
  split <;> simp
section
variable {X : Cx} {pins : List (Addr × Obj)} {σ : St} {H : Hp} {s : Shared} {a b : Addr} {A : Around} {E : Value → Shared → Prop} {rs : List (NestedKey × Addr × V)} {k : NestedKey} {v : V} {r : Value}
def NdK (X : Cx) (h : Heap) (rs : List (NestedKey × Addr × V)) : Prop := ∀ r ∈ rs, (nestedKind X.prog X.w).is h r.1 r.2.1
def tDNewN : TE := fun _ H Q => ∀ p, H p = none → Q (.ref p) (upd H p (NdO p []))
theorem nd_empty {P : Program} {w : World} {H : Hp} (h : Heap) (hb : sysModules < h.objs.size) : ObjOk P w H (h.push { cls := .type "dict", data := .dict #[] }) h.objs.size (NdO h.objs.size []) :=
  nd_obj ⟨Nat.zero_le _, beq_eq_false_iff_ne.mpr (Ne.symm (Nat.ne_of_lt hb)), (fun _ h => nomatch h), w, [], _, #[], 0, .nil, Heap.get?_push_size _ rfl, ⟨rfl, rfl, rfl⟩, rfl, rfl, List.nodup_nil⟩
theorem pe_dnewN {pos : Pos} : PE X (.Dict [] [] pos) tDNewN := ⟨fun pins s σ H Q I h =>
  wpAny_Dict_empty ⟨.ref s.heap.objs.size, _, I.laid (a := s.heap.objs.size) (o := NdO s.heap.objs.size []) (t' := s.toks) (fun _ _ q => Heap.get?_push_of_some _ q) (Nat.le_refl _) (nd_empty s.heap I.big), rfl, h _ (I.hok.fresh (Nat.le_refl _))⟩⟩
end
end PD
set_option Elab.async false
set_option linter.all false
set_option maxRecDepth 100000
set_option maxHeartbeats 4000000
namespace PD
open PySem L2
abbrev Rg := Addr → HO → Prop
def LsR (K : PySem.W.Frag) (G : Rg) (a : Addr) (xs : List V) : Prop :=
  G a (.lst xs) ∨ (∃ o, G a (.frz o (.lst xs))) ∨ SqL K (fun _ => none) a xs
def keyD : Key → PyData
  | .inl i => .int i
  | .inr x => .str x
inductive Dk where
  | k
  | t
  | n
def encK (ks : List PyData) : List PyData := PyData.none :: ks.flatMap fun d => [d, .none]
def encV (rs : List (NestedKey × Addr × V)) : List V := V.non :: rs.flatMap fun r => [r.2.2, .ref r.2.1]
def DcO : Dk → Addr → HO → List PyData → List V → Prop
  | .k, _, o, ks, vs => ∃ kvs : List (Key × V), o = .dK kvs ∧ ks = kvs.map (fun z => keyD z.1) ∧ vs = kvs.map (·.2)
  | .t, _, o, ks, vs => ∃ kvs : List (List Key × V), o = .dT kvs ∧ ks = kvs.map (fun z => .tuple (z.1.map keyD)) ∧ vs = kvs.map (·.2)
  | .n, a, o, ks, vs => ∃ (rs : List (NestedKey × Addr × V)) (kds : List PyData), o = NdO a rs ∧ kds.map nkD = rs.map (fun r => some r.1) ∧ (∀ r ∈ rs, r.1.depth ≤ 8) ∧ ks = encK kds ∧ vs = encV rs
def XvO (K : PySem.W.Frag) (nm : Str) (d : Option Addr) (a : Addr) : HO :=
  .ext fun h => ∃ (oe : Obj) (vs : Array Value), h.get? a = some oe ∧ Zc (.ref (He.ga K nm)) d oe ∧ oe.data = .fields vs
abbrev inD (nm : Str) (flds : List (Str × PyData)) : PyData := .dict ((.bool true, .str nm) :: flds.map fun z => (PyData.str z.1, z.2))
def dkD : Dk → PyData
  | .k => .int 0
  | .t => .int 1
  | .n => .int 2
abbrev udD (t : Dk) (kvs : List (PyData × PyData)) : PyData := .dict ((.bool false, dkD t) :: kvs)
abbrev xcD (nm : Str) (flds : List (Str × PyData)) : PyData := .dict ((.none, .str nm) :: flds.map fun z => (PyData.str z.1, z.2))
mutual
inductive Dn (K : PySem.W.Frag) (G : Rg) (H : Hp) : V → PyData → Prop
  | non : Dn K G H .non .none
  | bl (b : Bool) : Dn K G H (.bl b) (.bool b)
  | int (i : Int) : Dn K G H (.int i) (.int i)
  | str (x : Str) : Dn K G H (.str x) (.str x)
  | lst {a : Addr} {xs : List V} {ds : List PyData} : LsR K G a xs → DnA K G H xs ds → Dn K G H (.ref a) (.list ds)
  | tup {a : Addr} {xs : List V} {ds : List PyData} : H a = some (.tup xs) → DnA K G H xs ds → Dn K G H (.ref a) (.tuple ds)
  | dct {a : Addr} {o : HO} {t : Dk} {vs : List V} {kvs : List (PyData × PyData)} : (∃ ob, G a (.frz ob o)) → DcO t a o (kvs.map (·.1)) vs → DnA K G H vs (kvs.map (·.2)) → Dn K G H (.ref a) (.dict kvs)
  | exc {a dd : Addr} {nm : Str} {fs : List (Str × V)} {flds : List (Str × PyData)} : G a (XvO K nm (some dd) a) → G dd (.xd fs) → fs.map (·.1) = flds.map (·.1) → DnA K G H (fs.map (·.2)) (flds.map (·.2)) → Dn K G H (.ref a) (xcD nm flds)
  | exc0 {a : Addr} {nm : Str} : G a (XvO K nm none a) → Dn K G H (.ref a) (xcD nm [])
  | ins {a dx : Addr} {nm : Str} {fs : List (Str × V)} {flds : List (Str × PyData)} : G a (.ins (He.ga K nm) dx fs) → G dx (.own a) → fs.map (·.1) = flds.map (·.1) → DnA K G H (fs.map (·.2)) (flds.map (·.2)) → Dn K G H (.ref a) (inD nm flds)
  | dcu {a : Addr} {o : HO} {t : Dk} {vs : List V} {kvs : List (PyData × PyData)} : G a o → DcO t a o (kvs.map (·.1)) vs → DnA K G H vs (kvs.map (·.2)) → Dn K G H (.ref a) (udD t kvs)
inductive DnA (K : PySem.W.Frag) (G : Rg) (H : Hp) : List V → List PyData → Prop
  | nil : DnA K G H [] []
  | cons {v : V} {vs : List V} {d : PyData} {ds : List PyData} : Dn K G H v d → DnA K G H vs ds → DnA K G H (v :: vs) (d :: ds)
end
def TupLe (H H' : Hp) : Prop := ∀ a xs, H a = some (.tup xs) → H' a = some (.tup xs)
theorem TupLe.rf (H : Hp) : TupLe H H := fun _ _ h => h
theorem TupLe.tr {H H1 H2 : Hp} (a : TupLe H H1) (b : TupLe H1 H2) : TupLe H H2 := fun c xs h => b c xs (a c xs h)
def RgLe (G G' : Rg) : Prop := ∀ a o, G a o → G' a o
theorem LsR.mono {K : PySem.W.Frag} {G G' : Rg} {a : Addr} {xs : List V} (h : LsR K G a xs) (g : RgLe G G') : LsR K G' a xs := by
  rcases h with h | ⟨o, h⟩ | h
  · exact .inl (g _ _ h)
  · exact .inr (.inl ⟨o, g _ _ h⟩)
  · exact .inr (.inr h)
mutual
theorem Dn.mono {K : PySem.W.Frag} {G G' : Rg} {H H' : Hp} (g : RgLe G G') (t : TupLe H H') : ∀ {v : V} {d : PyData}, Dn K G H v d → Dn K G' H' v d
  | _, _, .non => .non
  | _, _, .bl b => .bl b
  | _, _, .int i => .int i
  | _, _, .str x => .str x
  | _, _, .lst h a => .lst (h.mono g) (DnA.mono g t a)
  | _, _, .tup h a => .tup (t _ _ h) (DnA.mono g t a)
  | _, _, .dct h c a => .dct (h.imp fun _ z => g _ _ z) c (DnA.mono g t a)
  | _, _, .exc h1 h2 e a => .exc (g _ _ h1) (g _ _ h2) e (DnA.mono g t a)
  | _, _, .exc0 h => .exc0 (g _ _ h)
  | _, _, .ins h1 h2 e a => .ins (g _ _ h1) (g _ _ h2) e (DnA.mono g t a)
  | _, _, .dcu h c a => .dcu (g _ _ h) c (DnA.mono g t a)
theorem DnA.mono {K : PySem.W.Frag} {G G' : Rg} {H H' : Hp} (g : RgLe G G') (t : TupLe H H') : ∀ {vs : List V} {ds : List PyData}, DnA K G H vs ds → DnA K G' H' vs ds
  | _, _, .nil => .nil
  | _, _, .cons h a => .cons (Dn.mono g t h) (DnA.mono g t a)
end
def flat : PyData → Bool
  | .none => true
  | .bool _ => true
  | .int _ => true
  | .str _ => true
  | .tuple xs => flatA xs
  | _ => false
where flatA : List PyData → Bool
  | [] => true
  | d :: ds => flat d && flatA ds
mutual
theorem Dn.free {K : PySem.W.Frag} {G G' : Rg} {H : Hp} : ∀ {v : V} {d : PyData}, Dn K G H v d → flat d = true → Dn K G' H v d
  | _, _, .non, _ => .non
  | _, _, .bl b, _ => .bl b
  | _, _, .int i, _ => .int i
  | _, _, .str x, _ => .str x
  | _, _, .lst _ _, h => by simp [flat] at h
  | _, _, .tup h a, f => .tup h (DnA.free a (by simpa [flat] using f))
  | _, _, .dct _ _ _, h => by simp [flat] at h
  | _, _, .exc _ _ _ _, h => by simp [flat] at h
  | _, _, .exc0 _, h => by simp [flat] at h
  | _, _, .ins _ _ _ _, h => by simp [flat] at h
  | _, _, .dcu _ _ _, h => by simp [flat] at h
theorem DnA.free {K : PySem.W.Frag} {G G' : Rg} {H : Hp} : ∀ {vs : List V} {ds : List PyData}, DnA K G H vs ds → flat.flatA ds = true → DnA K G' H vs ds
  | _, _, .nil, _ => .nil
  | _, _, .cons h a, f => by
    simp only [flat.flatA, Bool.and_eq_true] at f
    exact .cons (Dn.free h f.1) (DnA.free a f.2)
end
theorem DnA.length {K : PySem.W.Frag} {G : Rg} {H : Hp} : ∀ {vs : List V} {ds : List PyData}, DnA K G H vs ds → vs.length = ds.length
  | _, _, .nil => rfl
  | _, _, .cons _ a => by simp [a.length]
theorem DnA.get {K : PySem.W.Frag} {G : Rg} {H : Hp} : ∀ {vs : List V} {ds : List PyData} {i : Nat} {v : V}, DnA K G H vs ds → vs[i]? = some v → ∃ d, ds[i]? = some d ∧ Dn K G H v d
  | _, _, _, _, .nil, e => by simp at e
  | _, _, 0, _, .cons h _, e => by simp at e; subst e; exact ⟨_, rfl, h⟩
  | _, _, i + 1, v, .cons _ a, e => by
    obtain ⟨d, h1, h2⟩ := DnA.get (i := i) (v := v) a (by simpa using e)
    exact ⟨d, by simpa using h1, h2⟩
theorem DnA.get' {K : PySem.W.Frag} {G : Rg} {H : Hp} : ∀ {vs : List V} {ds : List PyData} {i : Nat} {d : PyData}, DnA K G H vs ds → ds[i]? = some d → ∃ v, vs[i]? = some v ∧ Dn K G H v d
  | _, _, _, _, .nil, e => by simp at e
  | _, _, 0, _, .cons h _, e => by simp at e; subst e; exact ⟨_, rfl, h⟩
  | _, _, i + 1, v, .cons _ a, e => by
    obtain ⟨d, h1, h2⟩ := DnA.get' (i := i) (d := v) a (by simpa using e)
    exact ⟨d, by simpa using h1, h2⟩
theorem DnA.append {K : PySem.W.Frag} {G : Rg} {H : Hp} : ∀ {vs ws : List V} {ds es : List PyData}, DnA K G H vs ds → DnA K G H ws es → DnA K G H (vs ++ ws) (ds ++ es)
  | _, _, _, _, .nil, b => b
  | _, _, _, _, .cons h a, b => .cons h (DnA.append a b)
theorem DnA.drop {K : PySem.W.Frag} {G : Rg} {H : Hp} : ∀ {vs : List V} {ds : List PyData} (n : Nat), DnA K G H vs ds → DnA K G H (vs.drop n) (ds.drop n)
  | _, _, 0, a => a
  | _, _, _ + 1, .nil => .nil
  | _, _, n + 1, .cons _ a => DnA.drop n a
theorem DnA.take {K : PySem.W.Frag} {G : Rg} {H : Hp} : ∀ {vs : List V} {ds : List PyData} (n : Nat), DnA K G H vs ds → DnA K G H (vs.take n) (ds.take n)
  | _, _, 0, _ => .nil
  | _, _, _ + 1, .nil => .nil
  | _, _, n + 1, .cons h a => .cons h (DnA.take n a)
theorem DnA.set {K : PySem.W.Frag} {G : Rg} {H : Hp} {v : V} {d : PyData} (h : Dn K G H v d) : ∀ {vs : List V} {ds : List PyData} (i : Nat), DnA K G H vs ds → DnA K G H (vs.set i v) (ds.set i d)
  | _, _, _, .nil => .nil
  | _, _, 0, .cons _ a => .cons h a
  | _, _, i + 1, .cons q a => .cons q (DnA.set h i a)
theorem DnA.reverse {K : PySem.W.Frag} {G : Rg} {H : Hp} : ∀ {vs : List V} {ds : List PyData}, DnA K G H vs ds → DnA K G H vs.reverse ds.reverse
  | _, _, .nil => .nil
  | _, _, .cons h a => by
    rw [List.reverse_cons, List.reverse_cons]
    exact DnA.append (DnA.reverse a) (.cons h .nil)
theorem dn_int {K : PySem.W.Frag} {G : Rg} {H : Hp} {v : V} {i : Int} (h : Dn K G H v (.int i)) : v = .int i := by cases h; rfl
theorem dn_bool {K : PySem.W.Frag} {G : Rg} {H : Hp} {v : V} {b : Bool} (h : Dn K G H v (.bool b)) : v = .bl b := by cases h; rfl
theorem dn_str {K : PySem.W.Frag} {G : Rg} {H : Hp} {v : V} {x : Str} (h : Dn K G H v (.str x)) : v = .str x := by cases h; rfl
theorem dn_none {K : PySem.W.Frag} {G : Rg} {H : Hp} {v : V} (h : Dn K G H v .none) : v = .non := by cases h; rfl
theorem dn_list {K : PySem.W.Frag} {G : Rg} {H : Hp} {v : V} {ds : List PyData} (h : Dn K G H v (.list ds)) : ∃ a xs, v = .ref a ∧ LsR K G a xs ∧ DnA K G H xs ds := by
  cases h with | lst h a => exact ⟨_, _, rfl, h, a⟩
theorem dn_tupleH {K : PySem.W.Frag} {G : Rg} {H : Hp} {v : V} {ds : List PyData} (h : Dn K G H v (.tuple ds)) : ∃ a xs, v = .ref a ∧ H a = some (.tup xs) ∧ DnA K G H xs ds := by
  cases h with | tup h a => exact ⟨_, _, rfl, h, a⟩
theorem dn_tuple {K : PySem.W.Frag} {G : Rg} {H : Hp} {v : V} {ds : List PyData} (h : Dn K G H v (.tuple ds)) : ∃ a xs, v = .ref a ∧ SqT K H a xs ∧ DnA K G H xs ds := by
  cases h with | tup h a => exact ⟨_, _, rfl, SqT.of h, a⟩
theorem dna_ints {K : PySem.W.Frag} {G : Rg} {H : Hp} : ∀ {ns : List Int} {vs : List V}, DnA K G H vs (ns.map PyData.int) → vs = ns.map V.int
  | [], _, .nil => rfl
  | n :: ns, _, .cons h a => by rw [dn_int h, dna_ints a]; rfl
theorem dna_bools {K : PySem.W.Frag} {G : Rg} {H : Hp} : ∀ {ns : List Bool} {vs : List V}, DnA K G H vs (ns.map PyData.bool) → vs = ns.map V.bl
  | [], _, .nil => rfl
  | n :: ns, _, .cons h a => by rw [dn_bool h, dna_bools a]; rfl
theorem ints_dna {K : PySem.W.Frag} {G : Rg} {H : Hp} : ∀ (ns : List Int), DnA K G H (ns.map V.int) (ns.map PyData.int)
  | [] => .nil
  | n :: ns => .cons (.int n) (ints_dna ns)
abbrev RgH (H : Hp) : Rg := fun a o => H a = some o
theorem LsR.sq {K : PySem.W.Frag} {H : Hp} {a : Addr} {xs : List V} (h : LsR K (RgH H) a xs) : SqL K H a xs := by
  rcases h with h | ⟨o, h⟩ | h
  · exact .inl (.inl h)
  · exact .inl (.inr ⟨o, h⟩)
  · rcases h with (h | ⟨o, h⟩) | h
    · cases h
    · cases h
    · exact .inr h
theorem LsR.of_sq {K : PySem.W.Frag} {H : Hp} {a : Addr} {xs : List V} (h : SqL K H a xs) : LsR K (RgH H) a xs := by
  rcases h with (h | ⟨o, h⟩) | h
  · exact .inl h
  · exact .inr (.inl ⟨o, h⟩)
  · exact .inr (.inr (.inr h))
mutual
theorem Dn.dp {K : PySem.W.Frag} {H : Hp} : ∀ {v : V} {d : PyData}, Dn K (RgH H) H v d → d.canLay0 = true → Dp K H v d
  | _, _, .non, _ => .non
  | _, _, .bl b, _ => .bl b
  | _, _, .int i, _ => .int i
  | _, _, .str x, _ => .str x
  | _, _, .lst h a, c => .lst h.sq (DnA.dp a (by rw [PyData.canLay0] at c; exact c))
  | _, _, .tup h a, c => .tup (SqT.of h) (DnA.dp a (by rw [PyData.canLay0] at c; exact c))
  | _, _, .dct _ _ _, c => by rw [PyData.canLay0] at c; cases c
  | _, _, .exc _ _ _ _, c => by rw [PyData.canLay0] at c; cases c
  | _, _, .exc0 _, c => by rw [PyData.canLay0] at c; cases c
  | _, _, .ins _ _ _ _, c => by rw [PyData.canLay0] at c; cases c
  | _, _, .dcu _ _ _, c => by rw [PyData.canLay0] at c; cases c
theorem DnA.dp {K : PySem.W.Frag} {H : Hp} : ∀ {vs : List V} {ds : List PyData}, DnA K (RgH H) H vs ds → PyData.canLayAll0 ds = true → DpAll K H vs ds
  | _, _, .nil, _ => .nil
  | _, _, .cons h a, c => by
    rw [PyData.canLayAll0, Bool.and_eq_true] at c
    exact .cons (Dn.dp h c.1) (DnA.dp a c.2)
end
theorem Dn.dps {K : PySem.W.Frag} {H : Hp} {v : V} {d : PyData} (h : Dn K (RgH H) H v d) (c : SeqAt.shaped d = true) : Dp K H v d := h.dp (SeqAt.canLay_of_shaped c)
structure Gh where
  H0 : Hp
  P : List Addr
  I : Nat → Option V
  N : Hp
  E : Hp
abbrev RgN (G : Gh) : Rg := fun a o => G.N a = some o
def RgA (G : Gh) : Rg := fun a o => G.N a = some o ∨ (G.H0 a = some o ∧ a ∉ G.P)
def rg (G : Gh) : Bool → Rg
  | true => RgN G
  | false => RgA G
structure Wf (G : Gh) (H : Hp) : Prop where
  keep : ∀ a o, G.H0 a = some o → a ∉ G.P → H a = some o
  new : ∀ a o, G.N a = some o → H a = some o ∧ True
  pal : ∀ a, a ∈ G.P → H a ≠ none
  p0 : ∀ a, a ∈ G.P → G.H0 a ≠ none
  ex : ∀ a o, G.E a = some o → H a = some o ∧ G.N a = none ∧ G.H0 a = none ∧ a ∉ G.P
  iv : ∀ i p, G.I i = some (.ref p) → p ∈ G.P ∨ G.E p ≠ none ∨ ∃ xs, H p = some (.tup xs)
theorem Wf.rgl {G : Gh} {H : Hp} (w : Wf G H) (fr : Bool) : RgLe (rg G fr) (RgH H) := fun a o h => by
  cases fr with
  | true => exact (w.new a o h).1
  | false =>
    rcases h with h | ⟨h1, h2⟩
    · exact (w.new a o h).1
    · exact w.keep a o h1 h2
theorem Wf.dn {K : PySem.W.Frag} {G : Gh} {H : Hp} {fr : Bool} {v : V} {d : PyData} (w : Wf G H) (h : Dn K (rg G fr) H v d) : Dn K (RgH H) H v d := h.mono (w.rgl fr) (TupLe.rf _)
theorem rg_ff (G : Gh) (fr : Bool) : RgLe (rg G fr) (rg G false) := fun a o h => by
  cases fr with
  | true => exact .inl h
  | false => exact h
structure Ext (G : Gh) (H : Hp) (G' : Gh) (H' : Hp) : Prop where
  h0 : G'.H0 = G.H0
  p : G'.P = G.P
  i : G'.I = G.I
  e : G'.E = G.E
  n : ∀ a o, G.N a = some o → G'.N a = some o
  nn : ∀ a o, G'.N a = some o → G.N a = some o ∨ G.H0 a = none
  t : TupLe H H'
  w : Wf G' H'
theorem Ext.rf {G : Gh} {H : Hp} (w : Wf G H) : Ext G H G H := ⟨rfl, rfl, rfl, rfl, fun _ _ h => h, fun _ _ h => .inl h, TupLe.rf _, w⟩
theorem Ext.tr {G G1 G2 : Gh} {H H1 H2 : Hp} (a : Ext G H G1 H1) (b : Ext G1 H1 G2 H2) : Ext G H G2 H2 :=
  ⟨b.h0.trans a.h0, b.p.trans a.p, b.i.trans a.i, b.e.trans a.e, fun c o h => b.n c o (a.n c o h), fun c o h => (b.nn c o h).elim (a.nn c o) (fun z => .inr (by rw [← a.h0]; exact z)), a.t.tr b.t, b.w⟩
theorem Ext.rgl {G G' : Gh} {H H' : Hp} (e : Ext G H G' H') (fr : Bool) : RgLe (rg G fr) (rg G' fr) := fun a o h => by
  cases fr with
  | true => exact e.n a o h
  | false =>
    rcases h with h | ⟨h1, h2⟩
    · exact .inl (e.n a o h)
    · exact .inr ⟨by rw [e.h0]; exact h1, by rw [e.p]; exact h2⟩
theorem Ext.dn {K : PySem.W.Frag} {G G' : Gh} {H H' : Hp} {fr : Bool} {v : V} {d : PyData} (e : Ext G H G' H') (h : Dn K (rg G fr) H v d) : Dn K (rg G' fr) H' v d := h.mono (e.rgl fr) e.t
theorem Ext.dna {K : PySem.W.Frag} {G G' : Gh} {H H' : Hp} {fr : Bool} {v : List V} {d : List PyData} (e : Ext G H G' H') (h : DnA K (rg G fr) H v d) : DnA K (rg G' fr) H' v d := h.mono (e.rgl fr) e.t
structure Le (G : Gh) (H : Hp) (G' : Gh) (H' : Hp) : Prop where
  h0 : G'.H0 = G.H0
  p : G'.P = G.P
  n : ∀ a o, G.N a = some o → G'.N a = some o
  nn : ∀ a o, G'.N a = some o → G.N a = some o ∨ G.H0 a = none
  t : TupLe H H'
  w : Wf G' H'
  e : ∀ a o, G.E a = some o → G'.E a = some o
theorem Ext.le {G G' : Gh} {H H' : Hp} (e : Ext G H G' H') : Le G H G' H' := ⟨e.h0, e.p, e.n, e.nn, e.t, e.w, fun a o h => by rw [e.e]; exact h⟩
theorem Le.tr {G G1 G2 : Gh} {H H1 H2 : Hp} (a : Le G H G1 H1) (b : Le G1 H1 G2 H2) : Le G H G2 H2 := ⟨b.h0.trans a.h0, b.p.trans a.p, fun c o h => b.n c o (a.n c o h), fun c o h => (b.nn c o h).elim (a.nn c o) (fun z => .inr (by rw [← a.h0]; exact z)), a.t.tr b.t, b.w, fun c o h => b.e c o (a.e c o h)⟩
theorem Le.rgl {G G' : Gh} {H H' : Hp} (e : Le G H G' H') (fr : Bool) : RgLe (rg G fr) (rg G' fr) := fun a o h => by
  cases fr with
  | true => exact e.n a o h
  | false =>
    rcases h with h | ⟨h1, h2⟩
    · exact .inl (e.n a o h)
    · exact .inr ⟨by rw [e.h0]; exact h1, by rw [e.p]; exact h2⟩
theorem Le.dna {K : PySem.W.Frag} {G G' : Gh} {H H' : Hp} {fr : Bool} {v : List V} {d : List PyData} (e : Le G H G' H') (h : DnA K (rg G fr) H v d) : DnA K (rg G' fr) H' v d := h.mono (e.rgl fr) e.t
abbrev Fd := List Int × Int × Int
def fdK (l : Addr) (t s : Int) : List (Key × V) := [(.inr "cells", .ref l), (.inr "turn", .int t), (.inr "seed", .int s)]
inductive Tre where
  | d (x : PyData)
  | lst (ts : List Tre)
  | tup (ts : List Tre)
  | dic (t : Dk) (ks : List PyData) (ts : List Tre)
  | ins (nm : Str) (fs : List Str) (ts : List Tre)
mutual
inductive TreOk (K : PySem.W.Frag) (G : Rg) (H : Hp) : V → List Addr → Tre → Prop
  | d {v : V} {x : PyData} : Dn K G H v x → TreOk K G H v [] (.d x)
  | lst {p : Addr} {vs : List V} {fp : List Addr} {ts : List Tre} : H p = some (.lst vs) → TresOk K G H vs fp ts → p ∉ fp → TreOk K G H (.ref p) (p :: fp) (.lst ts)
  | tup {p : Addr} {vs : List V} {fp : List Addr} {ts : List Tre} : H p = some (.tup vs) → TresOk K G H vs fp ts → TreOk K G H (.ref p) fp (.tup ts)
  | dic {p : Addr} {o : HO} {t : Dk} {ks : List PyData} {vs : List V} {fp : List Addr} {ts : List Tre} : H p = some o → DcO t p o ks vs → TresOk K G H vs fp ts → p ∉ fp → TreOk K G H (.ref p) (p :: fp) (.dic t ks ts)
  | ins {p dx : Addr} {nm : Str} {fs : List (Str × V)} {fp : List Addr} {ts : List Tre} : H p = some (.ins (He.ga K nm) dx fs) → H dx = some (.own p) → p ≠ dx → TresOk K G H (fs.map (·.2)) fp ts → p ∉ fp → dx ∉ fp → TreOk K G H (.ref p) (p :: dx :: fp) (.ins nm (fs.map (·.1)) ts)
inductive TresOk (K : PySem.W.Frag) (G : Rg) (H : Hp) : List V → List Addr → List Tre → Prop
  | nil : TresOk K G H [] [] []
  | cons {v : V} {vs : List V} {f1 f2 : List Addr} {t : Tre} {ts : List Tre} : TreOk K G H v f1 t → TresOk K G H vs f2 ts → (∀ p ∈ f1, p ∉ f2) → TresOk K G H (v :: vs) (f1 ++ f2) (t :: ts)
end
mutual
theorem TreOk.mono {K : PySem.W.Frag} {G G' : Rg} {H H' : Hp} (g : RgLe G G') (t : TupLe H H') : ∀ {v : V} {fp : List Addr} {T : Tre}, TreOk K G H v fp T → (∀ a ∈ fp, H' a = H a) → TreOk K G' H' v fp T
  | _, _, _, .d h, _ => .d (h.mono g t)
  | _, _, _, .lst h a n, k => .lst (by rw [k _ (by simp)]; exact h) (TresOk.mono g t a fun q hq => k q (by simp [hq])) n
  | _, _, _, .tup h a, k => .tup (t _ _ h) (TresOk.mono g t a k)
  | _, _, _, .dic h c a n, k => .dic (by rw [k _ (by simp)]; exact h) c (TresOk.mono g t a fun q hq => k q (by simp [hq])) n
  | _, _, _, .ins h1 h2 ne a n1 n2, k => .ins (by rw [k _ (by simp)]; exact h1) (by rw [k _ (by simp)]; exact h2) ne (TresOk.mono g t a fun q hq => k q (by simp [hq])) n1 n2
theorem TresOk.mono {K : PySem.W.Frag} {G G' : Rg} {H H' : Hp} (g : RgLe G G') (t : TupLe H H') : ∀ {vs : List V} {fp : List Addr} {ts : List Tre}, TresOk K G H vs fp ts → (∀ a ∈ fp, H' a = H a) → TresOk K G' H' vs fp ts
  | _, _, _, .nil, _ => .nil
  | _, _, _, .cons h a n, k => .cons (TreOk.mono g t h fun q hq => k q (by simp [hq])) (TresOk.mono g t a fun q hq => k q (by simp [hq])) n
end
def Nt (H : Hp) (p : Addr) : Prop := ∃ o, H p = some o ∧ (∀ xs, o ≠ .tup xs) ∧ ∀ x y, o ≠ .frz x y
theorem DcO.nt {t : Dk} {a : Addr} {o : HO} {ks : List PyData} {vs : List V} (h : DcO t a o ks vs) : (∀ xs, o ≠ .tup xs) ∧ ∀ x y, o ≠ .frz x y := by
  cases t with
  | k => obtain ⟨_, rfl, _⟩ := h; exact ⟨fun _ z => (nomatch z), fun _ _ z => (nomatch z)⟩
  | t => obtain ⟨_, rfl, _⟩ := h; exact ⟨fun _ z => (nomatch z), fun _ _ z => (nomatch z)⟩
  | n => obtain ⟨_, _, rfl, _⟩ := h; exact ⟨fun _ z => (nomatch z), fun _ _ z => (nomatch z)⟩
mutual
theorem TreOk.nt {K : PySem.W.Frag} {G : Rg} {H : Hp} : ∀ {v : V} {fp : List Addr} {T : Tre}, TreOk K G H v fp T → ∀ p ∈ fp, Nt H p
  | _, _, _, .d h, p, hp => by cases hp
  | _, _, _, .lst h a n, p, hp => by
    rcases List.mem_cons.mp hp with rfl | hp
    · exact ⟨_, h, fun _ z => (nomatch z), fun _ _ z => (nomatch z)⟩
    · exact TresOk.nt a p hp
  | _, _, _, .tup h a, p, hp => TresOk.nt a p hp
  | _, _, _, .dic h c a n, p, hp => by
    rcases List.mem_cons.mp hp with rfl | hp
    · exact ⟨_, h, c.nt.1, c.nt.2⟩
    · exact TresOk.nt a p hp
  | _, _, _, .ins h1 h2 ne a n1 n2, p, hp => by
    rcases List.mem_cons.mp hp with rfl | hp
    · exact ⟨_, h1, fun _ z => (nomatch z), fun _ _ z => (nomatch z)⟩
    · rcases List.mem_cons.mp hp with rfl | hp
      · exact ⟨_, h2, fun _ z => (nomatch z), fun _ _ z => (nomatch z)⟩
      · exact TresOk.nt a p hp
theorem TresOk.nt {K : PySem.W.Frag} {G : Rg} {H : Hp} : ∀ {vs : List V} {fp : List Addr} {ts : List Tre}, TresOk K G H vs fp ts → ∀ p ∈ fp, Nt H p
  | _, _, _, .nil, p, hp => by cases hp
  | _, _, _, .cons h a n, p, hp => by
    rcases List.mem_append.mp hp with hp | hp
    · exact TreOk.nt h p hp
    · exact TresOk.nt a p hp
end
mutual
def trD : Tre → Option PyData
  | .d x => some x
  | .lst ts => (trDs ts).map PyData.list
  | .tup ts => (trDs ts).map PyData.tuple
  | .dic t ks ts => (trDs ts).map fun ds => udD t (ks.zip ds)
  | .ins nm fs ts => (trDs ts).map fun ds => inD nm (fs.zip ds)
def trDs : List Tre → Option (List PyData)
  | [] => some []
  | t :: ts => (trD t).bind fun d => (trDs ts).map (d :: ·)
end
theorem TresOk.len1 {K : PySem.W.Frag} {G : Rg} {H : Hp} : ∀ {vs : List V} {fp : List Addr} {ts : List Tre}, TresOk K G H vs fp ts → vs.length = ts.length
  | _, _, _, .nil => rfl
  | _, _, _, .cons _ a _ => by simp [TresOk.len1 a]
theorem trDs_len : ∀ {ts : List Tre} {ds : List PyData}, trDs ts = some ds → ts.length = ds.length
  | [], _, h => by rw [trDs] at h; cases h; rfl
  | t :: ts, ds, h => by
    rw [trDs] at h
    cases q : trD t with
    | none => rw [q] at h; cases h
    | some d =>
      rw [q] at h
      have h : (trDs ts).map (d :: ·) = some ds := h
      cases q2 : trDs ts with
      | none => rw [q2] at h; cases h
      | some es =>
        rw [q2] at h
        cases h
        simp [trDs_len q2]
theorem DcO.len {t : Dk} {a : Addr} {o : HO} {ks : List PyData} {vs : List V} (h : DcO t a o ks vs) : ks.length = vs.length := by
  cases t with
  | k => obtain ⟨kvs, _, rfl, rfl⟩ := h; simp
  | t => obtain ⟨kvs, _, rfl, rfl⟩ := h; simp
  | n =>
    obtain ⟨rs, kds, _, e, _, rfl, rfl⟩ := h
    have e : kds.length = rs.length := by have := congrArg List.length e; simpa using this
    have l1 : ∀ l : List PyData, (l.flatMap fun d => [d, PyData.none]).length = 2 * l.length := fun l => by
      induction l with
      | nil => rfl
      | cons x r ih => simp [ih]; omega
    have l2 : ∀ l : List (NestedKey × Addr × V), (l.flatMap fun r => [r.2.2, V.ref r.2.1]).length = 2 * l.length := fun l => by
      induction l with
      | nil => rfl
      | cons x r ih => simp [ih]; omega
    show (PyData.none :: _).length = (V.non :: _).length
    rw [List.length_cons, List.length_cons, l1, l2, e]
theorem zip_fst {α β : Type} {xs : List α} {ys : List β} (h : xs.length = ys.length) : (xs.zip ys).map (·.1) = xs := List.map_fst_zip (Nat.le_of_eq h)
theorem zip_snd {α β : Type} {xs : List α} {ys : List β} (h : xs.length = ys.length) : (xs.zip ys).map (·.2) = ys := List.map_snd_zip (Nat.le_of_eq h.symm)
mutual
theorem TreOk.dn {K : PySem.W.Frag} {G G' : Rg} {H : Hp} (g : RgLe G G') : ∀ {v : V} {fp : List Addr} {T : Tre}, TreOk K G H v fp T → (∀ a ∈ fp, ∀ o, H a = some o → G' a o) → ∀ d, trD T = some d → Dn K G' H v d
  | _, _, _, .d h, _, d, e => by
    rw [trD] at e
    cases e
    exact h.mono g (TupLe.rf _)
  | _, _, _, .lst (ts := ts) h a n, k, d, e => by
    rw [trD] at e
    cases q : trDs ts with
    | none => rw [q] at e; cases e
    | some ds =>
      rw [q] at e
      cases e
      exact .lst (.inl (k _ (by simp) _ h)) (TresOk.dn g a (fun x hx => k x (by simp [hx])) ds q)
  | _, _, _, .tup (ts := ts) h a, k, d, e => by
    rw [trD] at e
    cases q : trDs ts with
    | none => rw [q] at e; cases e
    | some ds =>
      rw [q] at e
      cases e
      exact .tup h (TresOk.dn g a k ds q)
  | _, _, _, .dic (ks := ks) (ts := ts) h c a n, k, d, e => by
    rw [trD] at e
    cases q : trDs ts with
    | none => rw [q] at e; cases e
    | some ds =>
      rw [q] at e
      cases e
      have hl : ks.length = ds.length := by rw [c.len, a.len1, trDs_len q]
      exact .dcu (k _ (by simp) _ h) (by rw [zip_fst hl]; exact c) (by rw [zip_snd hl]; exact TresOk.dn g a (fun x hx => k x (by simp [hx])) ds q)
  | _, _, _, .ins (fs := fs) (ts := ts) h1 h2 ne a n1 n2, k, d, e => by
    rw [trD] at e
    cases q : trDs ts with
    | none => rw [q] at e; cases e
    | some ds =>
      rw [q] at e
      cases e
      have hl : (fs.map (·.1)).length = ds.length := by
        have := a.len1
        rw [List.length_map] at this ⊢
        rw [this, trDs_len q]
      exact .ins (k _ (by simp) _ h1) (k _ (by simp) _ h2) (by rw [zip_fst hl]) (by rw [zip_snd hl]; exact TresOk.dn g a (fun x hx => k x (by simp [hx])) ds q)
theorem TresOk.dn {K : PySem.W.Frag} {G G' : Rg} {H : Hp} (g : RgLe G G') : ∀ {vs : List V} {fp : List Addr} {ts : List Tre}, TresOk K G H vs fp ts → (∀ a ∈ fp, ∀ o, H a = some o → G' a o) → ∀ ds, trDs ts = some ds → DnA K G' H vs ds
  | _, _, _, .nil, _, ds, e => by rw [trDs] at e; cases e; exact .nil
  | _, _, _, .cons (t := t) (ts := ts) h a n, k, ds, e => by
    rw [trDs] at e
    cases q : trD t with
    | none => rw [q] at e; cases e
    | some d =>
      rw [q] at e
      have e : (trDs ts).map (d :: ·) = some ds := e
      cases q2 : trDs ts with
      | none => rw [q2] at e; cases e
      | some es =>
        rw [q2] at e
        cases e
        exact .cons (TreOk.dn g h (fun x hx => k x (by simp [hx])) d q) (TresOk.dn g a (fun x hx => k x (by simp [hx])) es q2)
end
def mulT : Dk → List (PyData × List PyData) → Tre
  | .n, l => .dic .n (encK (l.map (·.1))) (.d .none :: l.flatMap fun z => [.lst (z.2.map .d), .d z.1])
  | t, l => .dic t (l.map (·.1)) (l.map fun z => .lst (z.2.map .d))
inductive Cl where
  | lst (ds : List PyData)
  | dic (t : Dk) (kvs : List (PyData × PyData))
  | feed (f : Fd)
  | tr (t : Tre)
  | mul (t : Dk) (l : List (PyData × List PyData))
def Cl.ok (K : PySem.W.Frag) (G : Rg) (H : Hp) (v : V) (fp : List Addr) : Cl → Prop
  | .lst ds => ∃ p vs, v = .ref p ∧ fp = [p] ∧ H p = some (.lst vs) ∧ DnA K G H vs ds
  | .dic t kvs => ∃ p o vs, v = .ref p ∧ fp = [p] ∧ H p = some o ∧ DcO t p o (kvs.map (·.1)) vs ∧ DnA K G H vs (kvs.map (·.2))
  | .feed f => ∃ d l, v = .ref d ∧ fp = [d, l] ∧ d ≠ l ∧ H d = some (.dK (fdK l f.2.1 f.2.2)) ∧ H l = some (.lst (f.1.map V.int))
  | .tr T => TreOk K G H v fp T ∧ ∃ p, v = .ref p ∧ (p ∈ fp ∨ ∃ xs, H p = some (.tup xs))
  | .mul t l => TreOk K G H v fp (mulT t l) ∧ ∃ p, v = .ref p ∧ (p ∈ fp ∨ ∃ xs, H p = some (.tup xs))
theorem Cl.mono {K : PySem.W.Frag} {G G' : Rg} {H H' : Hp} {v : V} {fp : List Addr} {c : Cl} (h : c.ok K G H v fp) (g : RgLe G G') (k : ∀ a ∈ fp, H' a = H a) (t : TupLe H H') : c.ok K G' H' v fp := by
  cases c with
  | lst ds =>
    obtain ⟨p, vs, rfl, rfl, h1, h2⟩ := h
    exact ⟨p, vs, rfl, rfl, by rw [k p (by simp)]; exact h1, h2.mono g t⟩
  | dic t' kvs =>
    obtain ⟨p, o, vs, rfl, rfl, h1, h2, h3⟩ := h
    exact ⟨p, o, vs, rfl, rfl, by rw [k p (by simp)]; exact h1, h2, h3.mono g t⟩
  | feed f =>
    obtain ⟨d, l, h1, h2, h3, h4, h5⟩ := h
    exact ⟨d, l, h1, h2, h3, by rw [k d (by simp [h2])]; exact h4, by rw [k l (by simp [h2])]; exact h5⟩
  | tr T =>
    obtain ⟨h1, p, h2, h3⟩ := h
    exact ⟨h1.mono g t k, p, h2, h3.imp id fun ⟨xs, z⟩ => ⟨xs, t _ _ z⟩⟩
  | mul T l =>
    obtain ⟨h1, p, h2, h3⟩ := h
    exact ⟨h1.mono g t k, p, h2, h3.imp id fun ⟨xs, z⟩ => ⟨xs, t _ _ z⟩⟩
theorem Cl.root {K : PySem.W.Frag} {G : Rg} {H : Hp} {p : Addr} {fp : List Addr} {c : Cl} (h : c.ok K G H (.ref p) fp) : p ∈ fp ∨ ∃ xs, H p = some (.tup xs) := by
  cases c with
  | lst ds =>
    obtain ⟨q, vs, h1, rfl, _⟩ := h
    cases h1; exact .inl (by simp)
  | dic t kvs =>
    obtain ⟨q, o, vs, h1, rfl, _⟩ := h
    cases h1; exact .inl (by simp)
  | feed f =>
    obtain ⟨q, l, h1, rfl, _⟩ := h
    cases h1; exact .inl (by simp)
  | tr T =>
    obtain ⟨_, q, h1, h2⟩ := h
    cases h1; exact h2
  | mul T l =>
    obtain ⟨_, q, h1, h2⟩ := h
    cases h1; exact h2
inductive Itm where
  | d (x : PyData)
  | r (k : Nat)
inductive ItsOk (K : PySem.W.Frag) (G : Rg) (H : Hp) (fp : List Addr) : List V → List Itm → Prop
  | nil : ItsOk K G H fp [] []
  | d {v : V} {x : PyData} {vs : List V} {nd : List Itm} : Dn K G H v x → ItsOk K G H fp vs nd → ItsOk K G H fp (v :: vs) (.d x :: nd)
  | r {k : Nat} {p : Addr} {vs : List V} {nd : List Itm} : fp[k]? = some p → ItsOk K G H fp vs nd → ItsOk K G H fp (.ref p :: vs) (.r k :: nd)
def PoolOk (K : PySem.W.Frag) (G : Rg) (H : Hp) (fp : List Addr) (ns : List (List Itm)) : Prop :=
  fp.length = ns.length ∧ fp.Nodup ∧ ∀ (k : Nat) (nd : List Itm), ns[k]? = some nd → ∃ p vs, fp[k]? = some p ∧ H p = some (.lst vs) ∧ ItsOk K G H fp vs nd
theorem ItsOk.mono {K : PySem.W.Frag} {G G' : Rg} {H H' : Hp} (g : RgLe G G') (t : TupLe H H') {fp : List Addr} : ∀ {vs : List V} {nd : List Itm}, ItsOk K G H fp vs nd → ItsOk K G' H' fp vs nd
  | _, _, .nil => .nil
  | _, _, .d h a => .d (h.mono g t) (ItsOk.mono g t a)
  | _, _, .r h a => .r h (ItsOk.mono g t a)
theorem PoolOk.mono {K : PySem.W.Frag} {G G' : Rg} {H H' : Hp} {fp : List Addr} {ns : List (List Itm)} (h : PoolOk K G H fp ns) (g : RgLe G G') (k : ∀ a ∈ fp, H' a = H a) (t : TupLe H H') : PoolOk K G' H' fp ns :=
  ⟨h.1, h.2.1, fun j nd e => by
    obtain ⟨p, vs, h1, h2, h3⟩ := h.2.2 j nd e
    exact ⟨p, vs, h1, by rw [k p (List.mem_of_getElem? h1)]; exact h2, h3.mono g t⟩⟩
inductive Sl where
  | un
  | dat (fr : Bool) (d : PyData)
  | own (c : Cl)
  | io (c : Cl)
  /-- a list of one's own that is walked: read, not changed -/
  | lent (c : Cl)
  /-- the list of number k of the pool at slot j -/
  | ref (j k : Nat)
  /-- a pool of lists that hold one another (at a slot that no name stands for) -/
  | pool (ns : List (List Itm))
def Sl.pl : Sl → Bool
  | .ref _ _ => true
  | .pool _ => true
  | _ => false
structure Exn where
  cls : Str
  flds : List (Str × PyData)
  st : List Sl
inductive R (α : Type) where
  | val (a : α)
  | exc (x : Exn)
  | bad
def R.bind {α β : Type} : R α → (α → R β) → R β
  | .val a, k => k a
  | .exc x, _ => .exc x
  | .bad, _ => .bad
def SlOk (K : PySem.W.Frag) (G : Gh) (H : Hp) (i : Nat) (ov : Option (Option V)) (fp : List Addr) : Sl → Prop
  | .un => fp = []
  | .dat fr d => fp = [] ∧ ∃ v, ov = some (some v) ∧ Dn K (rg G fr) H v d
  | .own c => ∃ v, ov = some (some v) ∧ (∀ p ∈ fp, G.H0 p = none) ∧ c.ok K (RgN G) H v fp
  | .io c => ∃ v, ov = some (some v) ∧ G.I i = some v ∧ c.ok K (RgN G) H v fp
  | .lent c => fp = [] ∧ ∃ p o, ov = some (some (.ref p)) ∧ G.I i = some (.ref p) ∧ H p = some o ∧ G.E p = some o ∧ (∀ xs, o ≠ .tup xs) ∧ c.ok K (RgN G) H (.ref p) [p]
  | .ref _ _ => fp = []
  | .pool ns => (∀ p ∈ fp, G.H0 p = none) ∧ PoolOk K (RgN G) H fp ns
theorem SlOk.mono {K : PySem.W.Frag} {G G' : Gh} {H H' : Hp} {i : Nat} {ov : Option (Option V)} {fp : List Addr} {s : Sl} (h : SlOk K G H i ov fp s) (e : Ext G H G' H') (k : ∀ a ∈ fp, H' a = H a) : SlOk K G' H' i ov fp s := by
  cases s with
  | un => exact h
  | dat fr d =>
    obtain ⟨h1, v, h2, h3⟩ := h
    exact ⟨h1, v, h2, e.dn h3⟩
  | own c =>
    obtain ⟨v, h2, h4, h3⟩ := h
    exact ⟨v, h2, fun p hp => by rw [e.h0]; exact h4 p hp, Cl.mono h3 e.n k e.t⟩
  | io c =>
    obtain ⟨v, h2, h4, h3⟩ := h
    exact ⟨v, h2, by rw [e.i]; exact h4, Cl.mono h3 e.n k e.t⟩
  | lent c =>
    obtain ⟨h1, p, o, h2, h3, h4, h5, h6, h7⟩ := h
    have h5' : G'.E p = some o := by rw [e.e]; exact h5
    have h4' : H' p = some o := (e.w.ex p o h5').1
    exact ⟨h1, p, o, h2, by rw [e.i]; exact h3, h4', h5', h6, Cl.mono h7 e.n (fun a ha => by
      have : a = p := by simpa using ha
      rw [this, h4, h4']) e.t⟩
  | ref j k => exact h
  | pool ns => exact ⟨fun p hp => by rw [e.h0]; exact h.1 p hp, h.2.mono e.n k e.t⟩
structure StaA (K : PySem.W.Frag) (G : Gh) (H : Hp) (σ : St) (Γ : List Sl) (A : Nat → List Addr) : Prop where
  w : Wf G H
  len : Γ.length = σ.length
  sl : ∀ i s, Γ[i]? = some s → SlOk K G H i σ[i]? (A i) s
  al : ∀ i p, p ∈ A i → H p ≠ none ∧ G.N p = none ∧ (p ∈ G.P ∨ G.H0 p = none)
  ae : ∀ i p, p ∈ A i → G.E p = none
  dj : ∀ i j p, p ∈ A i → p ∈ A j → i = j
  rf : ∀ (i j k : Nat) (ns : List (List Itm)), Γ[i]? = some (Sl.ref j k) → Γ[j]? = some (Sl.pool ns) → ∃ p, (A j)[k]? = some p ∧ σ[i]? = some (some (V.ref p))
theorem rf_set {Γ : List Sl} {σ σ' : St} {A A' : Nat → List Addr} {i : Nat} {s' : Sl} (rf : ∀ (i j k : Nat) (ns : List (List Itm)), Γ[i]? = some (Sl.ref j k) → Γ[j]? = some (Sl.pool ns) → ∃ p, (A j)[k]? = some p ∧ σ[i]? = some (some (V.ref p)))
    (hs : s'.pl = false) (hA : ∀ j, j ≠ i → A' j = A j) (hσ : ∀ j, j ≠ i → σ'[j]? = σ[j]?) : ∀ (a j k : Nat) (ns : List (List Itm)), (Γ.set i s')[a]? = some (Sl.ref j k) → (Γ.set i s')[j]? = some (Sl.pool ns) → ∃ p, (A' j)[k]? = some p ∧ σ'[a]? = some (some (V.ref p)) := fun a j k ns h1 h2 => by
  have key : ∀ (b : Nat) (x : Sl), x.pl = true → (Γ.set i s')[b]? = some x → b ≠ i ∧ Γ[b]? = some x := fun b x hx h => by
    by_cases e : b = i
    · subst e
      by_cases hl : b < Γ.length
      · rw [List.getElem?_set_self hl] at h
        cases h
        rw [hs] at hx; cases hx
      · rw [List.getElem?_eq_none (by simpa using hl)] at h; cases h
    · rw [List.getElem?_set_ne (Ne.symm e)] at h
      exact ⟨e, h⟩
  obtain ⟨n1, g1⟩ := key a _ rfl h1
  obtain ⟨n2, g2⟩ := key j _ rfl h2
  obtain ⟨p, q1, q2⟩ := rf a j k ns g1 g2
  exact ⟨p, by rw [hA j n2]; exact q1, by rw [hσ a n1]; exact q2⟩
def Sta (K : PySem.W.Frag) (G : Gh) (H : Hp) (σ : St) (Γ : List Sl) : Prop := ∃ A, StaA K G H σ Γ A
theorem Sta.w {K : PySem.W.Frag} {G : Gh} {H : Hp} {σ : St} {Γ : List Sl} (s : Sta K G H σ Γ) : Wf G H := s.elim fun _ a => a.w
structure Grow (G : Gh) (H : Hp) (N' H' : Hp) (fs : List Addr) : Prop where
  k : ∀ a o, H a = some o → a ∉ fs → H' a = some o
  al : ∀ a, a ∈ fs → H' a ≠ none
  t : TupLe H H'
  n : ∀ a o, G.N a = some o → N' a = some o
  n' : ∀ a o, N' a = some o → H' a = some o ∧ (G.N a = some o ∨ H a = none)
theorem Grow.wf {G : Gh} {H N' H' : Hp} {fs : List Addr} (g : Grow G H N' H' fs) (w : Wf G H) (hf : ∀ p ∈ fs, p ∈ G.P ∨ G.H0 p = none) (he : ∀ p ∈ fs, G.E p = none) : Wf ⟨G.H0, G.P, G.I, N', G.E⟩ H' := by
  have al : ∀ a, H a ≠ none → H' a ≠ none := fun a h => by
    by_cases hp : a ∈ fs
    · exact g.al a hp
    · cases q : H a with
      | none => exact absurd q h
      | some o => rw [g.k a o q hp]; simp
  refine ⟨fun a o h h2 => ?_, fun a o h => ?_, fun a h => al a (w.pal a h), w.p0, fun a o h => ?_, fun i p h => (w.iv i p h).imp id fun z => z.imp id fun ⟨xs, z⟩ => ⟨xs, g.t p xs z⟩⟩
  · refine g.k a o (w.keep a o h h2) fun hp => ?_
    rcases hf a hp with z | z
    · exact h2 z
    · rw [show G.H0 a = some o from h] at z; cases z
  · obtain ⟨h1, h2⟩ := g.n' a o h
    exact ⟨h1, trivial⟩
  · obtain ⟨h1, h2, h3⟩ := w.ex a o h
    refine ⟨g.k a o h1 fun hp => ?_, ?_, h3⟩
    · have h : G.E a = some o := h
      rw [he a hp] at h; cases h
    · show N' a = none
      cases q : N' a with
      | none => rfl
      | some u =>
        rcases (g.n' a u q).2 with z | z
        · rw [h2] at z; cases z
        · rw [h1] at z; cases z
theorem Wf.none0 {G : Gh} {H : Hp} (w : Wf G H) {a : Addr} (h2 : H a = none) : G.H0 a = none := by
  cases q : G.H0 a with
  | none => rfl
  | some u =>
    by_cases hp : a ∈ G.P
    · exact absurd h2 (w.pal a hp)
    · rw [w.keep a u q hp] at h2; cases h2
theorem Grow.ext {G : Gh} {H N' H' : Hp} {fs : List Addr} (g : Grow G H N' H' fs) (w : Wf G H) (hf : ∀ p ∈ fs, p ∈ G.P ∨ G.H0 p = none) (he : ∀ p ∈ fs, G.E p = none) : Ext G H ⟨G.H0, G.P, G.I, N', G.E⟩ H' :=
  ⟨rfl, rfl, rfl, rfl, g.n, fun a o h => (g.n' a o h).2.imp id fun z => w.none0 z, g.t, g.wf w hf he⟩
theorem Grow.at {G : Gh} {H N' H' : Hp} {fs : List Addr} (g : Grow G H N' H' fs) {a : Addr} (h : H a ≠ none) (hp : a ∉ fs) : H' a = H a := by
  cases q : H a with
  | none => exact absurd q h
  | some o => exact g.k a o q hp
theorem Sta.grow {K : PySem.W.Frag} {G : Gh} {H H' N' : Hp} {σ : St} {Γ : List Sl} (s : Sta K G H σ Γ) (g : Grow G H N' H' []) :
    Sta K ⟨G.H0, G.P, G.I, N', G.E⟩ H' σ Γ ∧ Ext G H ⟨G.H0, G.P, G.I, N', G.E⟩ H' := by
  obtain ⟨A, S⟩ := s
  have e := g.ext S.w (fun p hp => absurd hp (by simp)) (fun p hp => absurd hp (by simp))
  refine ⟨⟨A, e.w, S.len, fun i s h => (S.sl i s h).mono e fun a ha => g.at (S.al i a ha).1 (by simp), fun i p hp => ?_, S.ae, S.dj, S.rf⟩, e⟩
  obtain ⟨h1, h2, h3⟩ := S.al i p hp
  refine ⟨by rw [g.at h1 (by simp)]; exact h1, ?_, h3⟩
  show N' p = none
  cases q : N' p with
  | none => rfl
  | some o =>
    rcases (g.n' p o q).2 with z | z
    · rw [h2] at z; cases z
    · exact absurd z h1
theorem StaA.step {K : PySem.W.Frag} {G : Gh} {H H' N' : Hp} {σ σ' : St} {Γ : List Sl} {A : Nat → List Addr} {i : Nat} {s' : Sl} {fp' fs : List Addr} (S : StaA K G H σ Γ A) (g : Grow G H N' H' fs)
    (hfs : ∀ p ∈ fs, p ∈ A i) (hσ : ∀ j, j ≠ i → σ'[j]? = σ[j]?) (hl : σ'.length = σ.length) (sl' : i < Γ.length → SlOk K ⟨G.H0, G.P, G.I, N', G.E⟩ H' i σ'[i]? fp' s')
    (f : ∀ p ∈ fp', H' p ≠ none ∧ N' p = none ∧ (p ∈ A i ∨ H p = none)) (hpl : s'.pl = false := by first | rfl | (cases ‹Bool› <;> rfl)) :
    Sta K ⟨G.H0, G.P, G.I, N', G.E⟩ H' σ' (Γ.set i s') ∧ Ext G H ⟨G.H0, G.P, G.I, N', G.E⟩ H' := by
  have hf : ∀ p ∈ fs, p ∈ G.P ∨ G.H0 p = none := fun p hp => (S.al i p (hfs p hp)).2.2
  have he : ∀ p ∈ fs, G.E p = none := fun p hp => S.ae i p (hfs p hp)
  have e := g.ext S.w hf he
  have nf : ∀ j, j ≠ i → ∀ p, p ∈ A j → p ∉ fs := fun j hj p hp hq => hj (S.dj j i p hp (hfs p hq))
  refine ⟨⟨fun j => if j = i then fp' else A j, e.w, by rw [List.length_set, hl]; exact S.len, fun j s h => ?_, fun j p hp => ?_, fun j p hp => ?_, fun j k p hj hk => ?_, rf_set S.rf hpl (fun j hj => if_neg hj) hσ⟩, e⟩
  · by_cases hj : j = i
    · subst hj
      have hlt : j < Γ.length := by
        have := (List.getElem?_eq_some_iff.mp h).1
        simpa using this
      rw [List.getElem?_set_self hlt] at h
      cases h
      rw [if_pos rfl]
      exact sl' hlt
    · rw [List.getElem?_set_ne (Ne.symm hj)] at h
      rw [if_neg hj, hσ j hj]
      exact (S.sl j s h).mono e fun a ha => g.at (S.al j a ha).1 (nf j hj a ha)
  · by_cases hj : j = i
    · rw [if_pos hj] at hp
      obtain ⟨h1, h2, h3⟩ := f p hp
      refine ⟨h1, h2, ?_⟩
      rcases h3 with z | z
      · exact (S.al i p z).2.2
      · by_cases q : p ∈ G.P
        · exact .inl q
        · refine .inr ?_
          show G.H0 p = none
          cases r : G.H0 p with
          | none => rfl
          | some u => rw [S.w.keep p u r q] at z; cases z
    · rw [if_neg hj] at hp
      obtain ⟨h1, h2, h3⟩ := S.al j p hp
      refine ⟨by rw [g.at h1 (nf j hj p hp)]; exact h1, ?_, h3⟩
      show N' p = none
      cases q : N' p with
      | none => rfl
      | some o =>
        rcases (g.n' p o q).2 with z | z
        · rw [h2] at z; cases z
        · exact absurd z h1
  · show G.E p = none
    by_cases hj : j = i
    · rw [if_pos hj] at hp
      rcases (f p hp).2.2 with z | z
      · exact S.ae i p z
      · cases q : G.E p with
        | none => rfl
        | some u => rw [(S.w.ex p u q).1] at z; cases z
    · rw [if_neg hj] at hp
      exact S.ae j p hp
  · have key : ∀ j', j' ≠ i → p ∈ A j' → p ∈ fp' → False := fun j' hj' h1 h2 => by
      rcases (f p h2).2.2 with z | z
      · exact hj' (S.dj j' i p h1 z)
      · exact (S.al j' p h1).1 z
    by_cases hj' : j = i
    · by_cases hk' : k = i
      · rw [hj', hk']
      · rw [if_pos hj'] at hj
        rw [if_neg hk'] at hk
        exact (key k hk' hk hj).elim
    · by_cases hk' : k = i
      · rw [if_neg hj'] at hj
        rw [if_pos hk'] at hk
        exact (key j hj' hj hk).elim
      · rw [if_neg hj'] at hj
        rw [if_neg hk'] at hk
        exact S.dj j k p hj hk
theorem grow0 {G : Gh} {H : Hp} (w : Wf G H) : Grow G H G.N H [] := ⟨fun _ _ h _ => h, fun _ h => absurd h (by simp), TupLe.rf _, fun _ _ h => h, fun a o h => ⟨(w.new a o h).1, .inl h⟩⟩
theorem same_upd {H : Hp} {p : Addr} {o : HO} (h : H p = none) : Same H (upd H p o) := fun b x e => by
  rw [upd_ne (ne_of_none e h)]
  exact e
theorem tup_upd {H : Hp} {p : Addr} {o : HO} (h : H p = none) : TupLe H (upd H p o) := fun b x e => same_upd h _ _ e
theorem grow_new {G : Gh} {H : Hp} {p : Addr} {o : HO} (w : Wf G H) (h : H p = none) : Grow G H (upd G.N p o) (upd H p o) [] := by
  have hN : G.N p = none := by
    cases q : G.N p with
    | none => rfl
    | some u => rw [(w.new p u q).1] at h; cases h
  refine ⟨fun a u e _ => same_upd h a u e, fun _ h => absurd h (by simp), tup_upd h, fun a u e => same_upd hN a u e, fun a u e => ?_⟩
  by_cases ha : a = p
  · subst ha
    rw [upd_same] at e
    rw [upd_same]
    exact ⟨e, .inr h⟩
  · rw [upd_ne ha] at e
    rw [upd_ne ha]
    exact ⟨(w.new a u e).1, .inl e⟩
theorem grow_mut {G : Gh} {H : Hp} {p : Addr} {o u : HO} (w : Wf G H) (h : H p = some u) (hN : G.N p = none) (ht : ∀ xs, u ≠ .tup xs) (hz : ∀ x y, u ≠ .frz x y) : Grow G H G.N (upd H p o) [p] := by
  refine ⟨fun a x e hp => by rw [upd_ne (by simpa using hp)]; exact e, fun a ha => ?_, fun a xs e => ?_, fun _ _ e => e, fun a x e => ⟨?_, .inl e⟩⟩
  · have : a = p := by simpa using ha
    rw [this, upd_same]; simp
  · by_cases q : a = p
    · subst q; rw [h] at e; exact absurd (Option.some.inj e) (ht _)
    · rw [upd_ne q]; exact e
  · rw [upd_ne (fun q => by rw [q, hN] at e; cases e)]
    exact (w.new a x e).1
theorem set_at {α : Type} {l : List α} {i : Nat} {x : α} (h : i < l.length) : (l.set i x)[i]? = some x := List.getElem?_set_self h
theorem Wf.fresh {G : Gh} {H : Hp} {p : Addr} (w : Wf G H) (hp : H p = none) : G.N p = none ∧ G.H0 p = none ∧ p ∉ G.P := by
  have h3 : p ∉ G.P := fun z => w.pal p z hp
  refine ⟨?_, ?_, h3⟩
  · cases q : G.N p with
    | none => rfl
    | some u => rw [(w.new p u q).1] at hp; cases hp
  · cases q : G.H0 p with
    | none => rfl
    | some u => rw [w.keep p u q h3] at hp; cases hp
theorem Sta.put {K : PySem.W.Frag} {G : Gh} {H : Hp} {σ : St} {Γ : List Sl} {fr : Bool} {d : PyData} {v : V} (s : Sta K G H σ Γ) (i : Nat) (h : Dn K (rg G fr) H v d) :
    Sta K G H (σ.set i (some v)) (Γ.set i (.dat fr d)) := by
  obtain ⟨A, S⟩ := s
  refine (S.step (i := i) (fp' := []) (s' := .dat fr d) (σ' := σ.set i (some v)) (grow0 S.w) (fun p hp => absurd hp (by simp)) (fun j hj => List.getElem?_set_ne (Ne.symm hj)) (List.length_set ..) (fun hlt => ⟨rfl, v, ?_, h⟩) (fun p hp => absurd hp (by simp))).1
  exact set_at (by rw [← S.len]; exact hlt)
theorem Sta.forget {K : PySem.W.Frag} {G : Gh} {H : Hp} {σ : St} {Γ : List Sl} (s : Sta K G H σ Γ) (i : Nat) : Sta K G H σ (Γ.set i .un) := by
  obtain ⟨A, S⟩ := s
  exact (S.step (i := i) (fp' := []) (s' := .un) (σ' := σ) (grow0 S.w) (fun p hp => absurd hp (by simp)) (fun j hj => rfl) rfl (fun hlt => rfl) (fun p hp => absurd hp (by simp))).1
theorem Sta.freeze {K : PySem.W.Frag} {G : Gh} {H : Hp} {σ : St} {Γ : List Sl} {ds : List PyData} (s : Sta K G H σ Γ) (i : Nat) (hi : Γ[i]? = some (.own (.lst ds))) :
    ∃ G', Sta K G' H σ (Γ.set i (.dat true (.list ds))) ∧ Ext G H G' H := by
  obtain ⟨A, S⟩ := s
  obtain ⟨v, h1, h0, p, vs, rfl, hfp, hp, hd⟩ := S.sl i _ hi
  have hpA : p ∈ A i := by rw [hfp]; simp
  have hN : G.N p = none := (S.al i p hpA).2.1
  have h00 : G.H0 p = none := h0 p hpA
  have n1 : ∀ a o, G.N a = some o → upd G.N p (.lst vs) a = some o := fun a o e => same_upd hN a o e
  have hE : ∀ a o, G.E a = some o → upd G.N p (.lst vs) a = none := fun a o ha => by
    have z : a ≠ p := fun z => by
      have q := S.ae i p hpA
      rw [z, q] at ha
      cases ha
    rw [upd_ne z]
    exact (S.w.ex a o ha).2.1
  have e : Ext G H ⟨G.H0, G.P, G.I, upd G.N p (.lst vs), G.E⟩ H := by
    refine ⟨rfl, rfl, rfl, rfl, n1, fun a o ha => ?_, TupLe.rf _, S.w.keep, fun a o ha => ?_, S.w.pal, S.w.p0, fun a o ha => ⟨(S.w.ex a o ha).1, hE a o ha, (S.w.ex a o ha).2.2⟩, S.w.iv⟩
    · have ha : upd G.N p (.lst vs) a = some o := ha
      by_cases q : a = p
      · subst q; exact .inr h00
      · rw [upd_ne q] at ha; exact .inl ha
    have ha : upd G.N p (.lst vs) a = some o := ha
    by_cases q : a = p
    · subst q
      rw [upd_same] at ha
      cases ha
      exact ⟨hp, trivial⟩
    · rw [upd_ne q] at ha
      exact S.w.new a o ha
  refine ⟨_, ⟨fun j => if j = i then [] else A j, e.w, by rw [List.length_set]; exact S.len, fun j s h => ?_, fun j q hq => ?_, fun j q hq => ?_, fun j k q hj hk => ?_, rf_set S.rf rfl (fun j hj => if_neg hj) (fun _ _ => rfl)⟩, e⟩
  · by_cases hj : j = i
    · subst hj
      rw [List.getElem?_set_self (List.getElem?_eq_some_iff.mp hi).1] at h
      cases h
      rw [if_pos rfl]
      exact ⟨rfl, .ref p, h1, .lst (.inl upd_same) (hd.mono n1 (TupLe.rf _))⟩
    · rw [List.getElem?_set_ne (Ne.symm hj)] at h
      rw [if_neg hj]
      exact (S.sl j s h).mono e fun a ha => rfl
  · by_cases hj : j = i
    · rw [if_pos hj] at hq; cases hq
    · rw [if_neg hj] at hq
      obtain ⟨h2, h3, h4⟩ := S.al j q hq
      refine ⟨h2, ?_, h4⟩
      show upd G.N p (.lst vs) q = none
      rw [upd_ne (fun z => hj (S.dj j i q hq (by rw [z]; exact hpA)))]
      exact h3
  · by_cases hj : j = i
    · rw [if_pos hj] at hq; cases hq
    · rw [if_neg hj] at hq
      exact S.ae j q hq
  · by_cases hj' : j = i
    · rw [if_pos hj'] at hj; cases hj
    · by_cases hk' : k = i
      · rw [if_pos hk'] at hk; cases hk
      · rw [if_neg hj'] at hj
        rw [if_neg hk'] at hk
        exact S.dj j k q hj hk
theorem Sta.lockDic {K : PySem.W.Frag} {G : Gh} {H : Hp} {σ : St} {Γ : List Sl} {t : Dk} {kvs : List (PyData × PyData)} (s : Sta K G H σ Γ) (i : Nat) (hi : Γ[i]? = some (.own (.dic t kvs))) :
    ∃ p ob, H p = some ob ∧ Mut (some ob) ∧ ∀ od, ∃ G', Sta K G' (upd H p (.frz od ob)) σ (Γ.set i (.dat true (.dict kvs))) ∧ Ext G H G' (upd H p (.frz od ob)) := by
  obtain ⟨A, S⟩ := s
  obtain ⟨v, h1, h0, p, ob, vs, rfl, hfp, hp, hk, hd⟩ := S.sl i _ hi
  have hpA : p ∈ A i := by rw [hfp]; simp
  have hmu : Mut (some ob) := by
    cases t with
    | k => obtain ⟨ks, rfl, _⟩ := hk; trivial
    | t => obtain ⟨ks, rfl, _⟩ := hk; trivial
    | n => obtain ⟨_, _, rfl, _⟩ := hk; trivial
  have hnt : ∀ xs, ob ≠ .tup xs := fun xs z => by rw [z] at hmu; exact hmu
  refine ⟨p, ob, hp, hmu, fun od => ?_⟩
  have hN : G.N p = none := (S.al i p hpA).2.1
  have h00 : G.H0 p = none := h0 p hpA
  have n1 : ∀ a o, G.N a = some o → upd G.N p (.frz od ob) a = some o := fun a o e => same_upd hN a o e
  have hE : ∀ a o, G.E a = some o → upd G.N p (.frz od ob) a = none := fun a o ha => by
    have z : a ≠ p := fun z => by
      have q := S.ae i p hpA
      rw [z, q] at ha
      cases ha
    rw [upd_ne z]
    exact (S.w.ex a o ha).2.1
  have ht : TupLe H (upd H p (.frz od ob)) := fun a xs h => by
    rw [upd_ne (fun z => by rw [z, hp] at h; cases h; exact hnt _ rfl)]; exact h
  have hal : ∀ a, H a ≠ none → upd H p (.frz od ob) a ≠ none := fun a h => by
    by_cases q : a = p
    · subst q; rw [upd_same]; exact fun z => nomatch z
    · rw [upd_ne q]; exact h
  have e : Ext G H ⟨G.H0, G.P, G.I, upd G.N p (.frz od ob), G.E⟩ (upd H p (.frz od ob)) := by
    refine ⟨rfl, rfl, rfl, rfl, n1, fun a o ha => ?_, ht, fun a o ha hb => ?_, fun a o ha => ?_, fun a ha => hal a (S.w.pal a ha), S.w.p0, fun a o ha => ⟨by rw [upd_ne (fun z => by rw [z] at ha; rw [S.ae i p hpA] at ha; cases ha)]; exact (S.w.ex a o ha).1, hE a o ha, (S.w.ex a o ha).2.2⟩, fun i q h => (S.w.iv i q h).imp id fun z => z.imp id fun ⟨xs, z⟩ => ⟨xs, ht q xs z⟩⟩
    · have ha : upd G.N p (.frz od ob) a = some o := ha
      by_cases q : a = p
      · subst q; exact .inr h00
      · rw [upd_ne q] at ha; exact .inl ha
    · rw [upd_ne (fun z => by rw [z, h00] at ha; cases ha)]; exact S.w.keep a o ha hb
    have ha : upd G.N p (.frz od ob) a = some o := ha
    by_cases q : a = p
    · subst q
      rw [upd_same] at ha
      cases ha
      exact ⟨upd_same, trivial⟩
    · rw [upd_ne q] at ha
      rw [upd_ne q]
      exact S.w.new a o ha
  refine ⟨_, ⟨fun j => if j = i then [] else A j, e.w, by rw [List.length_set]; exact S.len, fun j s h => ?_, fun j q hq => ?_, fun j q hq => ?_, fun j k q hj hk => ?_, rf_set S.rf rfl (fun j hj => if_neg hj) (fun _ _ => rfl)⟩, e⟩
  · by_cases hj : j = i
    · subst hj
      rw [List.getElem?_set_self (List.getElem?_eq_some_iff.mp hi).1] at h
      cases h
      rw [if_pos rfl]
      exact ⟨rfl, .ref p, h1, .dct ⟨od, upd_same⟩ hk (hd.mono n1 ht)⟩
    · rw [List.getElem?_set_ne (Ne.symm hj)] at h
      rw [if_neg hj]
      exact (S.sl j s h).mono e fun a ha => upd_ne fun z => hj (S.dj j i p (by rw [← z]; exact ha) hpA)
  · by_cases hj : j = i
    · rw [if_pos hj] at hq; cases hq
    · rw [if_neg hj] at hq
      obtain ⟨h2, h3, h4⟩ := S.al j q hq
      refine ⟨hal q h2, ?_, h4⟩
      show upd G.N p (.frz od ob) q = none
      rw [upd_ne (fun z => hj (S.dj j i q hq (by rw [z]; exact hpA)))]
      exact h3
  · by_cases hj : j = i
    · rw [if_pos hj] at hq; cases hq
    · rw [if_neg hj] at hq
      exact S.ae j q hq
  · by_cases hj' : j = i
    · rw [if_pos hj'] at hj; cases hj
    · by_cases hk' : k = i
      · rw [if_pos hk'] at hk; cases hk
      · rw [if_neg hj'] at hj
        rw [if_neg hk'] at hk
        exact S.dj j k q hj hk
theorem Sta.change {K : PySem.W.Frag} {G : Gh} {H : Hp} {σ : St} {Γ : List Sl} {ds : List PyData} (s : Sta K G H σ Γ) (i : Nat) (hi : Γ[i]? = some (.own (.lst ds))) :
    ∃ p vs, σ[i]? = some (some (.ref p)) ∧ H p = some (.lst vs) ∧ DnA K (rg G true) H vs ds ∧
      ∀ vs' ds', DnA K (rg G true) H vs' ds' → Sta K G (upd H p (.lst vs')) σ (Γ.set i (.own (.lst ds'))) ∧ Ext G H G (upd H p (.lst vs')) := by
  obtain ⟨A, S⟩ := s
  obtain ⟨v, h1, h0, p, vs, rfl, hfp, hp, hd⟩ := S.sl i _ hi
  have hpA : p ∈ A i := by rw [hfp]; simp
  have hN : G.N p = none := (S.al i p hpA).2.1
  refine ⟨p, vs, h1, hp, hd, fun vs' ds' hd' => ?_⟩
  have g : Grow G H G.N (upd H p (.lst vs')) [p] := grow_mut S.w hp hN (fun xs z => by cases z) (fun x y z => by cases z)
  refine S.step (i := i) (fp' := [p]) (s' := .own (.lst ds')) (σ' := σ) g (fun q hq => ?_) (fun j hj => rfl) rfl (fun hlt => ⟨.ref p, h1, fun q hq => ?_, p, vs', rfl, rfl, upd_same, hd'.mono (fun _ _ z => z) g.t⟩) (fun q hq => ?_)
  · have : q = p := by simpa using hq
    rw [this]; exact hpA
  · have : q = p := by simpa using hq
    rw [this]; exact h0 p hpA
  · have : q = p := by simpa using hq
    rw [this]
    exact ⟨by rw [upd_same]; simp, hN, .inl hpA⟩
theorem Sta.changeIo {K : PySem.W.Frag} {G : Gh} {H : Hp} {σ : St} {Γ : List Sl} {ds : List PyData} (s : Sta K G H σ Γ) (i : Nat) (hi : Γ[i]? = some (.io (.lst ds))) :
    ∃ p vs, σ[i]? = some (some (.ref p)) ∧ H p = some (.lst vs) ∧ DnA K (rg G true) H vs ds ∧
      ∀ vs' ds', DnA K (rg G true) H vs' ds' → Sta K G (upd H p (.lst vs')) σ (Γ.set i (.io (.lst ds'))) ∧ Ext G H G (upd H p (.lst vs')) := by
  obtain ⟨A, S⟩ := s
  obtain ⟨v, h1, h0, p, vs, rfl, hfp, hp, hd⟩ := S.sl i _ hi
  have hpA : p ∈ A i := by rw [hfp]; simp
  have hN : G.N p = none := (S.al i p hpA).2.1
  refine ⟨p, vs, h1, hp, hd, fun vs' ds' hd' => ?_⟩
  have g : Grow G H G.N (upd H p (.lst vs')) [p] := grow_mut S.w hp hN (fun xs z => by cases z) (fun x y z => by cases z)
  refine S.step (i := i) (fp' := [p]) (s' := .io (.lst ds')) (σ' := σ) g (fun q hq => ?_) (fun j hj => rfl) rfl (fun hlt => ⟨.ref p, h1, h0, p, vs', rfl, rfl, upd_same, hd'.mono (fun _ _ z => z) g.t⟩) (fun q hq => ?_)
  · have : q = p := by simpa using hq
    rw [this]; exact hpA
  · have : q = p := by simpa using hq
    rw [this]
    exact ⟨by rw [upd_same]; simp, hN, .inl hpA⟩
theorem Sta.pin {K : PySem.W.Frag} {G : Gh} {H : Hp} {σ : St} {Γ : List Sl} {D : Addr} {o : HO} (S : Sta K G H σ Γ) (hD : H D = none) : Sta K ⟨G.H0, G.P, G.I, G.N, upd G.E D o⟩ (upd H D o) σ Γ ∧ TupLe H (upd H D o) := by
  obtain ⟨A, S⟩ := S
  obtain ⟨f1, f2, f3⟩ := S.w.fresh hD
  have t := tup_upd (o := o) hD
  have nA : ∀ i, D ∉ A i := fun i h => (S.al i D h).1 hD
  have w : Wf ⟨G.H0, G.P, G.I, G.N, upd G.E D o⟩ (upd H D o) := by
    refine ⟨fun a u h h2 => same_upd hD _ _ (S.w.keep a u h h2), fun a u h => ⟨same_upd hD _ _ (S.w.new a u h).1, (S.w.new a u h).2⟩, fun a h => ?_, S.w.p0, fun a u h => ?_, fun i q h => (S.w.iv i q h).imp id fun z => z.imp (fun z => ?_) fun ⟨xs, z⟩ => ⟨xs, t q xs z⟩⟩
    rotate_left 2
    · by_cases e : q = D
      · show upd G.E D o q ≠ none
        rw [e, upd_same]; simp
      · show upd G.E D o q ≠ none
        rw [upd_ne e]; exact z
    · rw [upd_ne (show a ≠ D from fun z => f3 (z ▸ h))]
      exact S.w.pal a h
    · by_cases q : a = D
      · subst q
        have h : upd G.E a o a = some u := h
        rw [upd_same] at h ⊢
        exact ⟨h, f1, f2, f3⟩
      · have h : upd G.E D o a = some u := h
        rw [upd_ne q] at h ⊢
        exact S.w.ex a u h
  refine ⟨⟨A, w, S.len, fun i s h => ?_, fun i p h => ⟨?_, (S.al i p h).2⟩, fun i p h => ?_, S.dj, S.rf⟩, t⟩
  · have q := S.sl i s h
    cases s with
    | un => exact q
    | dat fr d =>
      obtain ⟨q1, v, q2, q3⟩ := q
      exact ⟨q1, v, q2, q3.mono (fun a o z => by cases fr <;> exact z) t⟩
    | own c =>
      obtain ⟨v, q2, q4, q3⟩ := q
      exact ⟨v, q2, q4, Cl.mono q3 (fun a o z => z) (fun a ha => upd_ne (fun z => nA i (z ▸ ha))) t⟩
    | io c =>
      obtain ⟨v, q2, q4, q3⟩ := q
      exact ⟨v, q2, q4, Cl.mono q3 (fun a o z => z) (fun a ha => upd_ne (fun z => nA i (z ▸ ha))) t⟩
    | lent c =>
      obtain ⟨q1, p, u, q2, q3, q4, q5, q6, q7⟩ := q
      have ne : p ≠ D := fun z => by rw [z, hD] at q4; cases q4
      exact ⟨q1, p, u, q2, q3, by rw [upd_ne ne]; exact q4, by show upd G.E D o p = _; rw [upd_ne ne]; exact q5, q6, Cl.mono q7 (fun a o z => z) (fun a ha => by
        have : a = p := by simpa using ha
        rw [this, upd_ne ne]) t⟩
    | ref _ _ => exact q
    | pool ns => exact ⟨q.1, q.2.mono (fun a o z => z) (fun a ha => upd_ne (fun z => nA i (z ▸ ha))) t⟩
  · rw [upd_ne (show p ≠ D from fun z => nA i (z ▸ h))]
    exact (S.al i p h).1
  · show upd G.E D o p = none
    rw [upd_ne (show p ≠ D from fun z => nA i (z ▸ h))]
    exact S.ae i p h
def del (H : Hp) (D : Addr) : Hp := fun b => if b = D then none else H b
theorem del_ne {H : Hp} {D b : Addr} (h : b ≠ D) : PD.del H D b = H b := by unfold PD.del; rw [if_neg h]
theorem del_same {H : Hp} {D : Addr} : PD.del H D D = none := by unfold PD.del; rw [if_pos rfl]
theorem del_upd {H : Hp} {D : Addr} {o : HO} (h : H D = some o) : upd (PD.del H D) D o = H := by
  funext b
  by_cases q : b = D
  · subst q; rw [upd_same, h]
  · rw [upd_ne q, del_ne q]
theorem Sta.unpin {K : PySem.W.Frag} {G : Gh} {H : Hp} {σ : St} {Γ : List Sl} {D : Addr} {o : HO} {E0 : Hp} (S : Sta K G H σ Γ) (hE : G.E = upd E0 D o) (h0 : E0 D = none) (ho : ∀ xs, o ≠ .tup xs) (hz : ∀ x y, o ≠ .frz x y) (hI : ∀ i, G.I i ≠ some (.ref D)) : Sta K ⟨G.H0, G.P, G.I, G.N, E0⟩ (PD.del H D) σ Γ ∧ H D = some o ∧ TupLe H (PD.del H D) := by
  obtain ⟨A, S⟩ := S
  have eD : G.E D = some o := by rw [hE, upd_same]
  obtain ⟨g1, g2, g3, g4⟩ := S.w.ex D o eD
  have nA : ∀ i, D ∉ A i := fun i h => by
    have := S.ae i D h
    rw [eD] at this; cases this
  have t : TupLe H (PD.del H D) := fun a xs h => by
    rw [del_ne (fun z => by rw [z, g1] at h; exact ho xs (Option.some.inj h))]
    exact h
  have nD : ∀ a u, G.N a = some u → a ≠ D := fun a u h z => by rw [z, g2] at h; cases h
  have w : Wf ⟨G.H0, G.P, G.I, G.N, E0⟩ (PD.del H D) := by
    refine ⟨fun a u h h2 => ?_, fun a u h => ?_, fun a h => ?_, S.w.p0, fun a u h => ?_, fun i q h => (S.w.iv i q h).imp id fun z => z.imp (fun z => ?_) fun ⟨xs, z⟩ => ⟨xs, t q xs z⟩⟩
    rotate_right
    · have ne : q ≠ D := fun e => hI i (e ▸ h)
      show E0 q ≠ none
      rw [hE, upd_ne ne] at z
      exact z
    · rw [del_ne (fun z => by rw [z] at h; rw [show G.H0 D = some u from h] at g3; cases g3)]
      exact S.w.keep a u h h2
    · rw [del_ne (nD a u h)]
      exact S.w.new a u h
    · rw [del_ne (show a ≠ D from fun z => g4 (z ▸ h))]
      exact S.w.pal a h
    · have h : E0 a = some u := h
      have q : a ≠ D := fun z => by rw [z, h0] at h; cases h
      rw [del_ne q]
      exact S.w.ex a u (by rw [hE, upd_ne q]; exact h)
  refine ⟨⟨A, w, S.len, fun i s h => ?_, fun i p h => ⟨?_, (S.al i p h).2⟩, fun i p h => ?_, S.dj, S.rf⟩, g1, t⟩
  · have q := S.sl i s h
    cases s with
    | un => exact q
    | dat fr d =>
      obtain ⟨q1, v, q2, q3⟩ := q
      exact ⟨q1, v, q2, q3.mono (fun a o z => by cases fr <;> exact z) t⟩
    | own c =>
      obtain ⟨v, q2, q4, q3⟩ := q
      exact ⟨v, q2, q4, Cl.mono q3 (fun a o z => z) (fun a ha => del_ne (fun z => nA i (z ▸ ha))) t⟩
    | io c =>
      obtain ⟨v, q2, q4, q3⟩ := q
      exact ⟨v, q2, q4, Cl.mono q3 (fun a o z => z) (fun a ha => del_ne (fun z => nA i (z ▸ ha))) t⟩
    | lent c =>
      obtain ⟨q1, p, u, q2, q3, q4, q5, q6, q7⟩ := q
      have ne : p ≠ D := fun z => hI i (by rw [← z]; exact q3)
      exact ⟨q1, p, u, q2, q3, by rw [del_ne ne]; exact q4, by show E0 p = _; rw [hE, upd_ne ne] at q5; exact q5, q6, Cl.mono q7 (fun a o z => z) (fun a ha => by
        have : a = p := by simpa using ha
        rw [this, del_ne ne]) t⟩
    | ref _ _ => exact q
    | pool ns => exact ⟨q.1, q.2.mono (fun a o z => z) (fun a ha => del_ne (fun z => nA i (z ▸ ha))) t⟩
  · rw [del_ne (show p ≠ D from fun z => nA i (z ▸ h))]
    exact (S.al i p h).1
  · show E0 p = none
    have := S.ae i p h
    rw [hE, upd_ne (show p ≠ D from fun z => nA i (z ▸ h))] at this
    exact this
theorem Sta.blank {K : PySem.W.Frag} {G : Gh} {H : Hp} {σ : St} {Γ : List Sl} (s : Sta K G H σ Γ) (i : Nat) (o : Option V) : Sta K G H (σ.set i o) (Γ.set i .un) := by
  obtain ⟨A, S⟩ := s
  exact (S.step (i := i) (fp' := []) (s' := .un) (σ' := σ.set i o) (grow0 S.w) (fun p hp => absurd hp (by simp)) (fun j hj => List.getElem?_set_ne (Ne.symm hj)) (List.length_set ..) (fun hlt => rfl) (fun p hp => absurd hp (by simp))).1
theorem Sta.swap {K : PySem.W.Frag} {G : Gh} {H : Hp} {σ σ' : St} {Γ : List Sl} (s : Sta K G H σ Γ) (hl : σ'.length = σ.length) (h : ∀ i : Nat, σ'[i]? = σ[i]? ∨ Γ[i]? = some Sl.un) : Sta K G H σ' Γ := by
  obtain ⟨A, S⟩ := s
  refine ⟨A, S.w, by rw [hl]; exact S.len, fun i sl e => ?_, S.al, S.ae, S.dj, fun i j k ns e1 e2 => ?_⟩
  rotate_left
  · obtain ⟨p, q1, q2⟩ := S.rf i j k ns e1 e2
    refine ⟨p, q1, ?_⟩
    rcases h i with q | q
    · rw [q]; exact q2
    · rw [q] at e1; cases e1
  rcases h i with q | q
  · rw [q]; exact S.sl i sl e
  · rw [q] at e
    cases e
    exact S.sl i .un q
end PD
set_option Elab.async false
set_option linter.all false
set_option maxRecDepth 100000
set_option maxHeartbeats 4000000
namespace PD
open PySem L2
inductive AV where
  | d (fr : Bool) (d : PyData)
  | s (i : Nat)
def AVok (K : PySem.W.Frag) (G : Gh) (H : Hp) (σ : St) (v : V) : AV → Prop
  | .d fr d => Dn K (rg G fr) H v d
  | .s i => σ[i]? = some (some v)
theorem AVok.ext {K : PySem.W.Frag} {G G' : Gh} {H H' : Hp} {σ : St} {v : V} {a : AV} (h : AVok K G H σ v a) (e : Ext G H G' H') : AVok K G' H' σ v a := by
  cases a with
  | d fr d => exact e.dn h
  | s i => exact h
def FldsOk (K : PySem.W.Frag) (G : Rg) (H : Hp) (fs : List (Str × V)) (flds : List (Str × PyData)) : Prop := fs.map (·.1) = flds.map (·.1) ∧ DnA K G H (fs.map (·.2)) (flds.map (·.2))
def XdOk (K : PySem.W.Frag) (G : Rg) (H : Hp) (d : Option Addr) (flds : List (Str × PyData)) : Prop :=
  (∃ a fs, d = some a ∧ G a (.xd fs) ∧ FldsOk K G H fs flds) ∨ (d = none ∧ flds = [])
def XW (X : Cx) (W : WX) (G : Gh) (H : Hp) (_ : St) (x : Exn) : Prop :=
  ∀ G' H' σ' C d, Ext G H G' H' → Sta X.K G' H' σ' x.st → X.mg x.cls = some (.ref C) → XdOk X.K (rg G' true) H' d x.flds → W (.ref C) d σ' H'
theorem XW.ext {X : Cx} {W : WX} {G G' : Gh} {H H' : Hp} {σ : St} {x : Exn} (h : XW X W G H σ x) (e : Ext G H G' H') : XW X W G' H' σ x := fun G2 H2 σ2 C d e2 => h G2 H2 σ2 C d (e.tr e2)
def Pst (X : Cx) (W : WX) (G : Gh) (H : Hp) (σ : St) {τ : Type} (m : R τ) (P : τ → Gh → Hp → Prop) : Prop :=
  match m with
  | .bad => False
  | .exc x => XW X W G H σ x
  | .val r => ∀ G' H', Ext G H G' H' → P r G' H'
theorem Pst.ext {X : Cx} {W : WX} {G G' : Gh} {H H' : Hp} {σ : St} {τ : Type} {m : R τ} {P : τ → Gh → Hp → Prop} (h : Pst X W G H σ m P) (e : Ext G H G' H') : Pst X W G' H' σ m P := by
  cases m with
  | bad => exact h
  | exc x => exact XW.ext (σ := σ) h e
  | val r => exact fun G2 H2 e2 => h G2 H2 (e.tr e2)
theorem Pst.imp {X : Cx} {W : WX} {G : Gh} {H : Hp} {σ : St} {τ : Type} {m : R τ} {P P' : τ → Gh → Hp → Prop} (h : Pst X W G H σ m P) (k : ∀ r G' H', Ext G H G' H' → P r G' H' → P' r G' H') : Pst X W G H σ m P' := by
  cases m with
  | bad => exact h
  | exc x => exact h
  | val r => exact fun G2 H2 e2 => k r G2 H2 e2 (h G2 H2 e2)
theorem Pst.impG {X : Cx} {W : WX} {G : Gh} {H : Hp} {σ : St} {τ : Type} {m : R τ} {P P' : τ → Gh → Hp → Prop} (h : Pst X W G H σ m P) (k : ∀ r G' H', Ext G H G' H' → (∀ G2 H2, Ext G' H' G2 H2 → P r G2 H2) → P' r G' H') : Pst X W G H σ m P' := by
  cases m with
  | bad => exact h
  | exc x => exact h
  | val r => exact fun G2 H2 e2 => k r G2 H2 e2 fun G3 H3 e3 => h G3 H3 (e2.tr e3)
theorem Pst.bind {X : Cx} {W : WX} {G : Gh} {H : Hp} {σ : St} {τ ρ : Type} {m : R τ} {k : τ → R ρ} {P : ρ → Gh → Hp → Prop} (h : Pst X W G H σ (m.bind k) P) : Pst X W G H σ m (fun r G' H' => Pst X W G' H' σ (k r) P) := by
  cases m with
  | bad => exact h
  | exc x => exact h
  | val r => exact fun G2 H2 e2 => Pst.ext h e2
section
variable (X : Cx) (W : WX) (Γ : List Sl)
def rdE {τ : Type} (m : R τ) (av : τ → AV) (Γ' : τ → List Sl) : TE := fun σ H Q => ∃ G, Sta X.K G H σ Γ ∧ Pst X W G H σ m fun r G' H' => ∀ v, Sta X.K G' H' σ (Γ' r) → AVok X.K G' H' σ v (av r) → Q v H'
def rdT {τ : Type} (m : R τ) (b : τ → Bool) (Γ' : τ → List Sl) : TT := fun σ H Q => ∃ G, Sta X.K G H σ Γ ∧ Pst X W G H σ m fun r G' H' => Sta X.K G' H' σ (Γ' r) → Q (b r) H'
def rdF {τ : Type} (m : R τ) (ds : τ → List PyData) (Γ' : τ → List Sl) : TE := fun σ H Q => ∃ G, Sta X.K G H σ Γ ∧ Pst X W G H σ m fun r G' H' => ∀ p vs, Sta X.K G' H' σ (Γ' r) → H' p = none → DnA X.K (rg G' true) H' vs (ds r) → Q (.ref p) (upd H' p (.lst vs))
inductive AVs (K : PySem.W.Frag) (G : Gh) (H : Hp) (σ : St) : List V → List AV → Prop
  | nil : AVs K G H σ [] []
  | cons {v : V} {vs : List V} {a : AV} {as : List AV} : AVok K G H σ v a → AVs K G H σ vs as → AVs K G H σ (v :: vs) (a :: as)
def rdA {τ : Type} (m : R τ) (as : τ → List AV) (Γ' : τ → List Sl) : TA := fun σ H Q => ∃ G, Sta X.K G H σ Γ ∧ Pst X W G H σ m fun r G' H' => ∀ vs, Sta X.K G' H' σ (Γ' r) → AVs X.K G' H' σ vs (as r) → Q vs H'
def Ev (e : Expr) {τ : Type} (m : R τ) (av : τ → AV) (Γ' : τ → List Sl) : Prop := PE X e (rdE X W Γ m av Γ')
def EvT (e : Expr) {τ : Type} (m : R τ) (b : τ → Bool) (Γ' : τ → List Sl) : Prop := PT X e (rdT X W Γ m b Γ')
def EvF (e : Expr) {τ : Type} (m : R τ) (ds : τ → List PyData) (Γ' : τ → List Sl) : Prop := PE X e (rdF X W Γ m ds Γ')
def EvA (es : List Expr) {τ : Type} (m : R τ) (as : τ → List AV) (Γ' : τ → List Sl) : Prop := PA X es (rdA X W Γ m as Γ')
abbrev EvP (e : Expr) (a : AV) : Prop := Ev X W Γ e (R.val ()) (fun _ => a) (fun _ => Γ)
end
theorem AVs.ext {K : PySem.W.Frag} {G G' : Gh} {H H' : Hp} {σ : St} (e : Ext G H G' H') : ∀ {vs : List V} {as : List AV}, AVs K G H σ vs as → AVs K G' H' σ vs as
  | _, _, .nil => .nil
  | _, _, .cons h a => .cons (h.ext e) (AVs.ext e a)
theorem pe_imp {X : Cx} {e : Expr} {t t' : TE} (h : PE X e t) (k : ∀ σ H Q, t' σ H Q → t σ H Q) : PE X e t' := ⟨fun pins s σ H Q I z => h.run pins s σ H Q I (k σ H Q z)⟩
theorem pt_imp {X : Cx} {e : Expr} {t t' : TT} (h : PT X e t) (k : ∀ σ H Q, t' σ H Q → t σ H Q) : PT X e t' := ⟨fun pins s σ H Q I z => h.run pins s σ H Q I (k σ H Q z)⟩
theorem pw_imp {X : Cx} {e : Expr} {t t' : TT} (h : PW X e t) (k : ∀ σ H Q, t' σ H Q → t σ H Q) : PW X e t' := ⟨fun w pins s σ H Q I z => h.run w pins s σ H Q I (k σ H Q z)⟩
theorem pa_imp {X : Cx} {es : List Expr} {t t' : TA} (h : PA X es t) (k : ∀ σ H Q, t' σ H Q → t σ H Q) : PA X es t' := ⟨fun pos pins s σ H Q I z => h.run pos pins s σ H Q I (k σ H Q z)⟩
theorem pe_any {X : Cx} {e : Expr} {α : Type} {t : α → TE} (h : ∀ x, PE X e (t x)) : PE X e (fun σ H Q => ∃ x, t x σ H Q) := ⟨fun pins s σ H Q I ⟨x, z⟩ => (h x).run pins s σ H Q I z⟩
theorem pt_any {X : Cx} {e : Expr} {α : Type} {t : α → TT} (h : ∀ x, PT X e (t x)) : PT X e (fun σ H Q => ∃ x, t x σ H Q) := ⟨fun pins s σ H Q I ⟨x, z⟩ => (h x).run pins s σ H Q I z⟩
theorem pw_any {X : Cx} {e : Expr} {α : Type} {t : α → TT} (h : ∀ x, PW X e (t x)) : PW X e (fun σ H Q => ∃ x, t x σ H Q) := ⟨fun w pins s σ H Q I ⟨x, z⟩ => (h x).run w pins s σ H Q I z⟩
theorem pa_any {X : Cx} {es : List Expr} {α : Type} {t : α → TA} (h : ∀ x, PA X es (t x)) : PA X es (fun σ H Q => ∃ x, t x σ H Q) := ⟨fun pos pins s σ H Q I ⟨x, z⟩ => (h x).run pos pins s σ H Q I z⟩
def visB (sc : Scope) (x : Str) : Bool := match sc.names.lookup x with
  | some .local => true
  | some .cell => true
  | some .free => true
  | _ => false
def glB (sc : Scope) (x : Str) : Bool := match sc.names.lookup x with
  | some .globalImplicit => true
  | _ => false
def locB (sc : Scope) (x : Str) : Bool := match sc.names.lookup x with
  | some .local => true
  | some .cell => true
  | _ => false
theorem loc_of {sc : Scope} {x : Str} (h : locB sc x = true) : Loc sc x := by
  unfold locB at h
  split at h
  · exact .inl ‹_›
  · exact .inr ‹_›
  · cases h
theorem vis_of {sc : Scope} {x : Str} (h : visB sc x = true) : Vis sc x := by
  unfold visB at h
  split at h
  · exact .inl ‹_›
  · exact .inr (.inl ‹_›)
  · exact .inr (.inr ‹_›)
  · cases h
theorem gl_of {sc : Scope} {x : Str} (h : glB sc x = true) : sc.names.lookup x = some .globalImplicit := by
  unfold glB at h
  split at h
  · assumption
  · cases h
def Sto (X : Cx) (sc : Scope) (x : Str) : Prop := Loc sc x ∧ (X.fn x = true ∨ sc.names.lookup x = some .local)
def lclB (sc : Scope) (x : Str) : Bool := match sc.names.lookup x with
  | some .local => true
  | _ => false
theorem sto_l {X : Cx} {sc : Scope} {x : Str} (h : lclB sc x = true) : Sto X sc x := by
  unfold lclB at h
  split at h
  · exact ⟨.inl ‹_›, .inr ‹_›⟩
  · cases h
theorem sto_c {X : Cx} {sc : Scope} {x : Str} (D : ∀ x, X.fn x = true) (h : locB sc x = true) : Sto X sc x := ⟨loc_of h, .inl (D x)⟩
structure Cf0 (X : Cx) (W : WX) (sc : Scope) (N : List Str) : Prop where
  hsc : X.env.scope = sc
  hN : X.N = N
  nd : N.Nodup
  tk : Takes X W
  hu : X.A.units + 64 < cLine
  pass : PassesOwn (model X.prog X.w) X.A X.env X.xe
  hu2 : X.A.units + 150 < cLine
structure Cf (X : Cx) (W : WX) (sc : Scope) (N : List Str) : Prop extends Cf0 X W sc N where
  calm : X.calm = true
section
variable {X : Cx} {W : WX} {sc : Scope} {N : List Str} {Γ : List Sl}
theorem Cf0.gl (C : Cf0 X W sc N) {x : Str} (h : glB sc x = true) : Gl X x := by
  show X.env.scope.names.lookup x = _
  rw [C.hsc]
  exact gl_of h
theorem evp_of {e : Expr} {t : TE} {a : AV} (h : PE X e t) (k : ∀ σ H Q G, Sta X.K G H σ Γ → (∀ G' H' v, Ext G H G' H' → Sta X.K G' H' σ Γ → AVok X.K G' H' σ v a → Q v H') → t σ H Q) : EvP X W Γ e a :=
  pe_imp h fun σ H Q ⟨G, S, p⟩ => k σ H Q G S fun G' H' v e' S' a' => p G' H' e' v S' a'
theorem evp_var (C : Cf0 X W sc N) {i : Nat} {x : Str} {pos : Pos} {fr : Bool} {d : PyData} (hg : Γ[i]? = some (.dat fr d)) (hN : N[i]? = some x) (hv : visB sc x = true)
    (hd : (x == ("__debug__" : Str)) = false := by decide +kernel) (hcd : (x == ("__classdict__" : Str)) = false := by decide +kernel) : EvP X W Γ (.Name x pos) (.d fr d) := by
  refine evp_of (pe_var (i := i) (by rw [C.hN]; exact hN) (by rw [C.hsc]; exact vis_of hv) hd hcd) fun σ H Q G S k => ?_
  obtain ⟨A, T⟩ := id S
  obtain ⟨_, v, h1, h2⟩ := T.sl i _ hg
  exact ⟨v, h1, k G H v (Ext.rf S.w) S h2⟩
theorem evp_slot (C : Cf0 X W sc N) {i : Nat} {x : Str} {pos : Pos} {c : Cl} (hg : Γ[i]? = some (.own c) ∨ Γ[i]? = some (.io c) ∨ Γ[i]? = some (.lent c)) (hN : N[i]? = some x) (hv : visB sc x = true)
    (hd : (x == ("__debug__" : Str)) = false := by decide +kernel) (hcd : (x == ("__classdict__" : Str)) = false := by decide +kernel) : EvP X W Γ (.Name x pos) (.s i) := by
  refine evp_of (pe_var (i := i) (by rw [C.hN]; exact hN) (by rw [C.hsc]; exact vis_of hv) hd hcd) fun σ H Q G S k => ?_
  obtain ⟨A, T⟩ := id S
  have : ∃ v, σ[i]? = some (some v) := by
    rcases hg with hg | hg | hg
    · obtain ⟨v, h1, _⟩ := T.sl i _ hg
      exact ⟨v, h1⟩
    · obtain ⟨v, h1, _⟩ := T.sl i _ hg
      exact ⟨v, h1⟩
    · obtain ⟨_, p, o, h1, _⟩ := T.sl i _ hg
      exact ⟨_, h1⟩
  obtain ⟨v, h1⟩ := this
  exact ⟨v, h1, k G H v (Ext.rf S.w) S h1⟩
theorem evp_const {e : Expr} {v : V} {d : PyData} (h : PE X e (tC v)) (hd : ∀ K G H, Dn K G H v d) : EvP X W Γ e (.d true d) :=
  evp_of h fun σ H Q G S k => k G H v (Ext.rf S.w) S (hd _ _ _)
theorem evp_int {i : Int} {j : Nat} {pos : Pos} : EvP X W Γ (.Constant (.int i) j pos) (.d true (.int i)) := evp_const pe_int fun _ _ _ => .int i
theorem evp_bool {b : Bool} {j : Nat} {pos : Pos} : EvP X W Γ (.Constant (.bool b) j pos) (.d true (.bool b)) := evp_const pe_bl fun _ _ _ => .bl b
theorem evp_none {j : Nat} {pos : Pos} : EvP X W Γ (.Constant .none j pos) (.d true .none) := evp_const pe_non fun _ _ _ => .non
theorem Ev.free {e : Expr} {τ : Type} {m : R τ} {fr fr' : Bool} {enc : τ → PyData} {Γ' : τ → List Sl} (h : Ev X W Γ e m (fun r => .d fr (enc r)) Γ') (hf : ∀ r, flat (enc r) = true) : Ev X W Γ e m (fun r => .d fr' (enc r)) Γ' :=
  pe_imp h fun σ H Q ⟨G, S, p⟩ => ⟨G, S, p.imp fun r G' H' _ k v S' a => k v S' (Dn.free a (hf r))⟩
theorem EvP.free {e : Expr} {fr fr' : Bool} {d : PyData} (h : EvP X W Γ e (.d fr d)) (hf : flat d = true) : EvP X W Γ e (.d fr' d) := Ev.free h fun _ => hf
theorem EvP.any {e : Expr} {fr : Bool} {d : PyData} (h : EvP X W Γ e (.d fr d)) : EvP X W Γ e (.d false d) :=
  pe_imp h fun σ H Q ⟨G, S, p⟩ => ⟨G, S, p.imp fun r G' H' _ k v S' a => k v S' (Dn.mono (rg_ff G' fr) (TupLe.rf _) a)⟩
theorem EvF.ev {e : Expr} {τ : Type} {m : R τ} {ds : τ → List PyData} {Γ' : τ → List Sl} (h : EvF X W Γ e m ds Γ') : Ev X W Γ e m (fun r => .d true (.list (ds r))) Γ' :=
  pe_imp h fun σ H Q ⟨G, S, p⟩ => ⟨G, S, p.impG fun r G' H' _ k p vs S' hp hd => by
    obtain ⟨S2, e2⟩ := S'.grow (grow_new (o := .lst vs) S'.w hp)
    exact k _ _ e2 _ S2 (.lst (.inl upd_same) (hd.mono e2.n e2.t))⟩
theorem bin_rd {α β γ : Type} {ma : R α} {ava : α → AV} {Γa : α → List Sl} {mb : α → R β} {avb : α → β → AV} {Γb : α → β → List Sl} {k : α → β → R γ} {avk : γ → AV} {Γk : γ → List Sl} {r : R2}
    (hk : ∀ x y G H σ u v Q, Sta X.K G H σ (Γb x y) → AVok X.K G H σ u (ava x) → AVok X.K G H σ v (avb x y) → Pst X W G H σ (k x y) (fun z G' H' => ∀ w, Sta X.K G' H' σ (Γk z) → AVok X.K G' H' σ w (avk z) → Q w H') → r u v H Q)
    {σ : St} {H : Hp} {Q : VK} (h : rdE X W Γ (ma.bind fun x => (mb x).bind fun y => k x y) avk Γk σ H Q) :
    tOp r (rdE X W Γ ma ava Γa) (fun σ H Q => ∃ x, rdE X W (Γa x) (mb x) (avb x) (Γb x) σ H Q) σ H Q := by
  obtain ⟨G, S, p⟩ := h
  refine ⟨G, S, (Pst.bind p).imp fun x G1 H1 e1 p1 u S1 a1 => ⟨x, G1, S1, (Pst.bind p1).imp fun y G2 H2 e2 p2 v S2 a2 => ?_⟩⟩
  exact hk x y G2 H2 σ u v Q S2 (a1.ext e2) a2 p2
variable {a b : Expr} {pos : Pos} {α β γ : Type} {ma : R α} {mb : α → R β} {Γa : α → List Sl} {Γb : α → β → List Sl} {Γk : γ → List Sl}
end
end PD
set_option Elab.async false
set_option linter.all false
set_option maxRecDepth 100000
set_option maxHeartbeats 4000000
set_option autoImplicit false
namespace PD
open PySem L2
theorem itT {P Q : Prop} (h : P) : if true = true then P else Q := by rw [if_pos rfl]; exact h
theorem itF {P Q : Prop} (h : Q) : if false = true then P else Q := by rw [if_neg (by simp)]; exact h
theorem R.bind_assoc {α β γ : Type} (m : R α) (f : α → R β) (g : β → R γ) : (m.bind f).bind g = m.bind fun a => (f a).bind g := by cases m <;> rfl
theorem R.bind_val {α : Type} (m : R α) : (m.bind fun a => .val a) = m := by cases m <;> rfl
def R.ofO {α : Type} : Option α → R α
  | some a => .val a
  | none => .bad
def R.req (b : Bool) : R Unit := if b then .val () else .bad
def cMul (i j : Int) : Bool := decide (i.natAbs.log2 + j.natAbs.log2 < 1000000)
def cDiv (_ j : Int) : Bool := decide (0 < j) && decide (j.natAbs.log2 < 9000)
def cMod (_ j : Int) : Bool := decide (0 < j)
def cShl (i j : Int) : Bool := decide (0 ≤ j) && decide ((Builtin.Int.intBits i : Int) + j ≤ 2 ^ 27)
def cShr (_ j : Int) : Bool := decide (0 ≤ j)
def cPow (i j : Int) : Bool := decide (0 ≤ j ∧ j ≤ 1000000 ∧ i.natAbs < 2 ^ 64)
theorem cMul_ok (i j : Int) (h : cMul i j = true) : CMulW i j := of_decide_eq_true (p := i.natAbs.log2 + j.natAbs.log2 < 1000000) h
theorem cDiv_ok (i j : Int) (h : cDiv i j = true) : CDivW i j := by
  unfold cDiv at h
  rw [Bool.and_eq_true] at h
  exact ⟨of_decide_eq_true h.1, of_decide_eq_true h.2⟩
theorem cMod_ok (i j : Int) (h : cMod i j = true) : 0 < j := of_decide_eq_true h
theorem cShl_ok (i j : Int) (h : cShl i j = true) : CShl i j := by
  unfold cShl at h
  rw [Bool.and_eq_true] at h
  exact ⟨of_decide_eq_true h.1, of_decide_eq_true h.2⟩
theorem cShr_ok (i j : Int) (h : cShr i j = true) : 0 ≤ j := of_decide_eq_true h
theorem cPow_ok (i j : Int) (h : cPow i j = true) : CPow i j := of_decide_eq_true (p := 0 ≤ j ∧ j ≤ 1000000 ∧ i.natAbs < 2 ^ 64) h
inductive Rdb (Γ : List Sl) : AV → PyData → Prop
  | d {fr : Bool} {z : PyData} : Rdb Γ (.d fr z) z
  | o {i : Nat} {es : List PyData} : Γ[i]? = some (.own (.lst es)) → Rdb Γ (.s i) (.list es)
  | i {i : Nat} {es : List PyData} : Γ[i]? = some (.io (.lst es)) → Rdb Γ (.s i) (.list es)
  | l {i : Nat} {es : List PyData} : Γ[i]? = some (.lent (.lst es)) → Rdb Γ (.s i) (.list es)
theorem atI_dn {K : PySem.W.Frag} {G : Rg} {H : Hp} {vs : List V} {ds : List PyData} {i : Int} {d : PyData} (h : DnA K G H vs ds) (e : atI ds i = some d) : ∃ v, atI vs i = some v ∧ Dn K G H v d := by
  unfold atI at e ⊢
  rw [h.length]
  cases q : ixN ds.length i with
  | none => rw [q] at e; cases e
  | some j =>
    rw [q] at e
    exact h.get' e
def szB {α : Type} (xs : List α) : Bool := decide (xs.length ≤ sizeLine)
def mkS (io : Bool) (c : Cl) : Sl := if io then .io c else .own c
theorem Sta.chg {K : PySem.W.Frag} {G : Gh} {H : Hp} {σ : St} {Γ : List Sl} {ds : List PyData} (s : Sta K G H σ Γ) (i : Nat) (io : Bool) (hi : Γ[i]? = some (mkS io (.lst ds))) :
    ∃ p vs, σ[i]? = some (some (.ref p)) ∧ H p = some (.lst vs) ∧ DnA K (rg G true) H vs ds ∧
      ∀ vs' ds', DnA K (rg G true) H vs' ds' → Sta K G (upd H p (.lst vs')) σ (Γ.set i (mkS io (.lst ds'))) ∧ Ext G H G (upd H p (.lst vs')) := by
  cases io with
  | true => exact s.changeIo i hi
  | false => exact s.change i hi
def ltS {α : Type} (xs : List α) : Bool := decide (xs.length < sizeLine)
section
variable {X : Cx} {W : WX} {sc : Scope} {N : List Str} {Γ : List Sl} {a b c : Expr} {pos : Pos}
theorem Ev.tst {e : Expr} {τ : Type} {m : R τ} {fr : Bool} {b : τ → Bool} {Γ1 : τ → List Sl} (h : Ev X W Γ e m (fun r => .d fr (.bool (b r))) Γ1) (he : ∀ whole, isTrue e X.env whole = (do let v ← whole; standAt e.pos; holding [v] (truthy v)) := by intro _; rfl) : EvT X W Γ e m b Γ1 :=
  pt_imp (pt_val h he) fun σ H Q ⟨G, S, p⟩ => ⟨G, S, Pst.imp p fun r G' H' _ k v S' a => ⟨b r, dn_bool a, k S'⟩⟩
theorem evt_notM {τ : Type} {m : R τ} {z : τ → Bool} {Γ1 : τ → List Sl} (ha : EvT X W Γ a m z Γ1) : EvT X W Γ (.UnaryOp .Not a pos) m (fun r => !z r) Γ1 :=
  pt_imp (pt_not ha) fun σ H Q ⟨G, S, p⟩ => ⟨G, S, p⟩
end
theorem Sta.lent {K : PySem.W.Frag} {G : Gh} {H : Hp} {σ : St} {Γ : List Sl} {i : Nat} {es : List PyData} {v : V} (S : Sta K G H σ Γ) (h : Γ[i]? = some (.own (.lst es)) ∨ Γ[i]? = some (.io (.lst es))) (hv : σ[i]? = some (some v)) : Dn K (RgH H) H v (.list es) := by
  rcases h with h | h
  · obtain ⟨p, vs, h1, h2, h3, _⟩ := S.change i h
    rw [hv] at h1
    cases h1
    exact .lst (.inl h2) (h3.mono (S.w.rgl true) (TupLe.rf _))
  · obtain ⟨p, vs, h1, h2, h3, _⟩ := S.changeIo i h
    rw [hv] at h1
    cases h1
    exact .lst (.inl h2) (h3.mono (S.w.rgl true) (TupLe.rf _))
theorem Sta.lentL {K : PySem.W.Frag} {G : Gh} {H : Hp} {σ : St} {Γ : List Sl} {i : Nat} {es : List PyData} (S : Sta K G H σ Γ) (h : Γ[i]? = some (.lent (.lst es))) : ∃ p vs, σ[i]? = some (some (.ref p)) ∧ H p = some (.lst vs) ∧ G.E p = some (.lst vs) ∧ DnA K (rg G true) H vs es := by
  obtain ⟨A, T⟩ := S
  obtain ⟨_, p, o, h1, h2, h3, h4, h5, q, vs, e, _, h6, h7⟩ := T.sl i _ h
  cases e
  rw [h3] at h6
  cases h6
  exact ⟨p, vs, h1, h3, h4, h7⟩
theorem Rdb.ok {K : PySem.W.Frag} {G : Gh} {H : Hp} {σ : St} {Γ : List Sl} {a : AV} {z : PyData} {v : V} (h : Rdb Γ a z) (S : Sta K G H σ Γ) (hv : AVok K G H σ v a) : Dn K (RgH H) H v z := by
  cases h with
  | d => exact S.w.dn hv
  | o hg => exact S.lent (.inl hg) hv
  | i hg => exact S.lent (.inr hg) hv
  | l hg =>
    obtain ⟨p, vs, h1, h2, _, h3⟩ := S.lentL hg
    have hv : σ[_]? = some (some v) := hv
    rw [h1] at hv
    cases hv
    exact .lst (.inl h2) (h3.mono (S.w.rgl true) (TupLe.rf _))
section
variable {X : Cx} {W : WX} {Γ : List Sl} {a b : Expr} {op : CmpOp} {pos : Pos}
theorem cmp_test {M : Model} {A : Around} {E : Value → Shared → Prop} {env : Env} {s : Shared} {l r : Expr} {op : CmpOp} {pos : Pos} {whole : Sem Value} {Q : Bool → Shared → Prop} (h : wpAny M A (eval (.Compare l [op] [r] pos) env) (fun c s' => wpAny M A (truthy c) Q E s') E s) (hm : behindInMarks op r = false) :
    wpAny M A (isTrue (.Compare l [op] [r] pos) env whole) Q E s := fun Γ p hΓ => by
  have q := h Γ p hΓ
  simp only [eval_Compare1, markedBehindIn_of_false hm, Sem.wp_bind', Sem.wp_holding, Sem.wp_cmd_standAt, Sem.wp_operate] at q
  simp only [isTrue_Compare1, markedBehindIn_of_false hm, Sem.wp_bind', Sem.wp_holding, Sem.wp_cmd_standAt, Sem.wp_operate]
  exact Sem.wp_mono M Γ _ (fun a p1 s1 h1 => Sem.wp_mono M Γ _ (fun b p2 s2 h2 => Sem.wp_mono M Γ _ (fun c p3 s3 h3 => h3 Γ p3 hΓ) (fun _ _ _ z => z) _ _ h2) (fun _ _ _ z => z) _ _ h1) (fun _ _ _ z => z) _ _ q
theorem pt_cmpV {X : Cx} {a b : Expr} {op : CmpOp} {pos : Pos} {t : TE} (h : PE X (.Compare a [op] [b] pos) t) (hm : behindInMarks op b = false) : PT X (.Compare a [op] [b] pos) (tB t) := by
  refine ⟨fun pins s σ H Q I hw => cmp_test (thn (h.run pins s σ H _ I hw) fun v s1 ⟨x, H1, I1, r1, q1⟩ => ?_) hm⟩
  obtain ⟨d, rfl, q⟩ := q1
  cases r1
  exact wpAny_truthy_bool ⟨H1, I1, q⟩
theorem Ev.tstC {τ : Type} {m : R τ} {fr : Bool} {z : τ → Bool} {Γ1 : τ → List Sl} (h : Ev X W Γ (.Compare a [op] [b] pos) m (fun r => .d fr (.bool (z r))) Γ1) (hm : behindInMarks op b = false := by first | exact nobehind _ (by decide) (by decide) | rfl) : EvT X W Γ (.Compare a [op] [b] pos) m z Γ1 :=
  pt_imp (pt_cmpV h hm) fun σ H Q ⟨G, S, p⟩ => ⟨G, S, Pst.imp p fun r G' H' _ k v S' a => ⟨z r, dn_bool a, k S'⟩⟩
end
theorem AVs.length {K : PySem.W.Frag} {G : Gh} {H : Hp} {σ : St} : ∀ {vs : List V} {as : List AV}, AVs K G H σ vs as → vs.length = as.length
  | _, _, .nil => rfl
  | _, _, .cons _ a => by simp [AVs.length a]
theorem Sta.newTup {K : PySem.W.Frag} {G : Gh} {H : Hp} {σ : St} {Γ : List Sl} {p : Addr} {vs : List V} {ds : List PyData} {fr : Bool} (S : Sta K G H σ Γ) (hp : H p = none) (hd : DnA K (rg G fr) H vs ds) :
    ∃ G', Sta K G' (upd H p (.tup vs)) σ Γ ∧ Ext G H G' (upd H p (.tup vs)) ∧ Dn K (rg G' fr) (upd H p (.tup vs)) (.ref p) (.tuple ds) := by
  obtain ⟨S', e⟩ := S.grow (grow_new (o := .tup vs) S.w hp)
  exact ⟨_, S', e, .tup upd_same (e.dna hd)⟩
theorem AVs.len {K : PySem.W.Frag} {G : Gh} {H : Hp} {σ : St} : ∀ {vs : List V} {as : List AV}, AVs K G H σ vs as → vs.length = as.length
  | _, _, .nil => rfl
  | _, _, .cons _ a => by simp [AVs.len a]
def max2 (i j : Int) : Int := if j > i then j else i
def min2 (i j : Int) : Int := if j < i then j else i
def b2n (b : Bool) : Int := if b then 1 else 0
def pyTy : PyData → String
  | .none => "NoneType"
  | .bool _ => "bool"
  | .int _ => "int"
  | .str _ => "str"
  | .list _ => "list"
  | .tuple _ => "tuple"
  | .dict _ => "dict"
section
variable {X : Cx} {W : WX} {Γ : List Sl} {a b c : Expr} {rest : List Expr} {pos : Pos} {α β γ : Type} {ma : R α} {ba : α → Bool} {Γa : α → List Sl} {mb : α → R β} {bb : α → β → Bool} {Γb : α → β → List Sl} {Γk : γ → List Sl} {bk : γ → Bool}
def EvWM (X : Cx) (W : WX) (Γ : List Sl) (e : Expr) {τ : Type} (m : R τ) (b : τ → Bool) (Γ' : τ → List Sl) : Prop := PW X e (rdT X W Γ m b Γ')
theorem EvWM.t {e : Expr} (h : EvWM X W Γ e ma ba Γa) : EvT X W Γ e ma ba Γa := PW.pt h
theorem evw_orM1 (h : EvT X W Γ a ma ba Γa) : EvWM X W Γ (.BoolOp .Or [a] pos) ma ba Γa := pw_or1 h
theorem evw_andM1 (h : EvT X W Γ a ma ba Γa) : EvWM X W Γ (.BoolOp .And [a] pos) ma ba Γa := pw_and1 h
theorem evw_orM (ha : EvT X W Γ a ma ba Γa) (hb : ∀ x, EvWM X W (Γa x) (.BoolOp .Or (b :: rest) pos) (mb x) (bb x) (Γb x)) (k1 : α → γ) (k2 : α → β → γ) (h1 : ∀ x, bk (k1 x) = true := by intros; rfl) (h2 : ∀ x, Γk (k1 x) = Γa x := by intros; rfl) (h3 : ∀ x y, bk (k2 x y) = bb x y := by intros; rfl) (h4 : ∀ x y, Γk (k2 x y) = Γb x y := by intros; rfl) :
    EvWM X W Γ (.BoolOp .Or (a :: b :: rest) pos) (ma.bind fun x => if ba x then .val (k1 x) else (mb x).bind fun y => .val (k2 x y)) bk Γk :=
  pw_imp (pw_or ha (pw_any hb)) fun σ H Q ⟨G, S, p⟩ => ⟨G, S, (Pst.bind p).imp fun x G1 H1 e1 p1 S1 => by
    cases hx : ba x with
    | true =>
      rw [if_pos hx] at p1
      have q := p1 G1 H1 (Ext.rf S1.w) (by rw [h2]; exact S1)
      rw [h1] at q
      exact itT q
    | false =>
      rw [if_neg (by rw [hx]; decide)] at p1
      exact itF ⟨x, G1, S1, (Pst.bind p1).imp fun y G2 H2 e2 p2 S2 => by
        have q := p2 G2 H2 (Ext.rf S2.w) (by rw [h4]; exact S2)
        rw [h3] at q
        exact q⟩⟩
theorem evw_andM (ha : EvT X W Γ a ma ba Γa) (hb : ∀ x, EvWM X W (Γa x) (.BoolOp .And (b :: rest) pos) (mb x) (bb x) (Γb x)) (k1 : α → γ) (k2 : α → β → γ) (h1 : ∀ x, bk (k1 x) = false := by intros; rfl) (h2 : ∀ x, Γk (k1 x) = Γa x := by intros; rfl) (h3 : ∀ x y, bk (k2 x y) = bb x y := by intros; rfl) (h4 : ∀ x y, Γk (k2 x y) = Γb x y := by intros; rfl) :
    EvWM X W Γ (.BoolOp .And (a :: b :: rest) pos) (ma.bind fun x => if ba x then (mb x).bind fun y => .val (k2 x y) else .val (k1 x)) bk Γk :=
  pw_imp (pw_and ha (pw_any hb)) fun σ H Q ⟨G, S, p⟩ => ⟨G, S, (Pst.bind p).imp fun x G1 H1 e1 p1 S1 => by
    cases hx : ba x with
    | false =>
      rw [if_neg (by rw [hx]; decide)] at p1
      have q := p1 G1 H1 (Ext.rf S1.w) (by rw [h2]; exact S1)
      rw [h1] at q
      exact itF q
    | true =>
      rw [if_pos hx] at p1
      exact itT ⟨x, G1, S1, (Pst.bind p1).imp fun y G2 H2 e2 p2 S2 => by
        have q := p2 G2 H2 (Ext.rf S2.w) (by rw [h4]; exact S2)
        rw [h3] at q
        exact q⟩⟩
variable {f1 f2 : Bool}
theorem evv_oneM {op : BoolOp} {av : α → AV} (ha : Ev X W Γ a ma av Γa) : Ev X W Γ (.BoolOp op [a] pos) ma av Γa := pe_one ha
end
section
variable {X : Cx} {W : WX} {sc : Scope} {N : List Str} {Γ : List Sl}
theorem eva_nil : EvA X W Γ [] (R.val ()) (fun _ => []) (fun _ => Γ) :=
  pa_imp pa_nil fun σ H Q ⟨G, S, p⟩ => p G H (Ext.rf S.w) [] S .nil
theorem eva_cons {e : Expr} {es : List Expr} {α β γ : Type} {ma : R α} {ava : α → AV} {Γa : α → List Sl} {mb : α → R β} {asb : α → β → List AV} {Γb : α → β → List Sl} (kk : α → β → γ) {as : γ → List AV} {Γk : γ → List Sl}
    (ha : Ev X W Γ e ma ava Γa) (hb : ∀ x, EvA X W (Γa x) es (mb x) (asb x) (Γb x)) (h1 : ∀ x y, as (kk x y) = ava x :: asb x y := by intros; rfl) (h2 : ∀ x y, Γk (kk x y) = Γb x y := by intros; rfl)
    (hst : starEach (e :: es) X.env = (false, eval e X.env) :: starEach es X.env := by rfl) :
    EvA X W Γ (e :: es) (ma.bind fun x => (mb x).bind fun y => .val (kk x y)) as Γk := by
  refine pa_imp (pa_cons ha (pa_any hb) hst) fun σ H Q ⟨G, S, p⟩ => ?_
  refine ⟨G, S, (Pst.bind p).imp fun x G1 H1 e1 p1 v S1 a1 => ⟨x, G1, S1, (Pst.bind p1).imp fun y G2 H2 e2 p2 vs S2 a2 => ?_⟩⟩
  refine p2 G2 H2 (Ext.rf S2.w) (v :: vs) (by rw [h2]; exact S2) ?_
  rw [h1]
  exact .cons (a1.ext e2) a2
end
end PD
set_option Elab.async false
set_option linter.all false
set_option maxRecDepth 100000
set_option maxHeartbeats 4000000
set_option autoImplicit false
namespace PD
open PySem L2
abbrev DF := List Sl → R (AV × List Sl)
abbrev DA := List Sl → R (List AV × List Sl)
abbrev DT := List Sl → R (Bool × List Sl)
abbrev DN := List Sl → R (List PyData × List Sl)
section
variable (X : Cx) (W : WX)
def CE (e : Expr) (f : DF) : Prop := ∀ Γ, Ev X W Γ e (f Γ) Prod.fst Prod.snd
def CT (e : Expr) (f : DT) : Prop := ∀ Γ, EvT X W Γ e (f Γ) Prod.fst Prod.snd
def CW (e : Expr) (f : DT) : Prop := ∀ Γ, EvWM X W Γ e (f Γ) Prod.fst Prod.snd
def CN (e : Expr) (f : DN) : Prop := ∀ Γ, EvF X W Γ e (f Γ) Prod.fst Prod.snd
def CA (es : List Expr) (f : DA) : Prop := ∀ Γ, EvA X W Γ es (f Γ) Prod.fst Prod.snd
def Pk (G : Gh) (H : Hp) (σ : St) (m : R (AV × List Sl)) (Q : VK) : Prop := Pst X W G H σ m fun y G' H' => ∀ w, Sta X.K G' H' σ y.2 → AVok X.K G' H' σ w y.1 → Q w H'
end
section
variable {X : Cx} {W : WX} {sc : Scope} {N : List Str} {a b c e : Expr} {pos : Pos} {f g : DF}
theorem Pk.v {G : Gh} {H : Hp} {σ : St} {y : AV} {Γ : List Sl} {Q : VK} (h : Pk X W G H σ (.val (y, Γ)) Q) (S : Sta X.K G H σ Γ) {w : V} (hw : AVok X.K G H σ w y) : Q w H := h G H (Ext.rf S.w) w S hw
theorem Pk.v' {G G' : Gh} {H H' : Hp} {σ : St} {y : AV} {Γ : List Sl} {Q : VK} (h : Pk X W G H σ (.val (y, Γ)) Q) (e : Ext G H G' H') (S : Sta X.K G' H' σ Γ) {w : V} (hw : AVok X.K G' H' σ w y) : Q w H' := h G' H' e w S hw
theorem ev_bad {τ : Type} {Γ : List Sl} {av : τ → AV} {Γ' : τ → List Sl} (h : PE X e (fun _ _ _ => False) := ⟨fun _ _ _ _ _ _ z => z.elim⟩) : Ev X W Γ e (R.bad : R τ) av Γ' := pe_imp h fun σ H Q ⟨G, S, p⟩ => p
theorem evt_bad {τ : Type} {Γ : List Sl} {av : τ → Bool} {Γ' : τ → List Sl} (h : PT X e (fun _ _ _ => False) := ⟨fun _ _ _ _ _ _ z => z.elim⟩) : EvT X W Γ e (R.bad : R τ) av Γ' := pt_imp h fun σ H Q ⟨G, S, p⟩ => p
def dVar (i : Nat) : DF := fun Γ => match Γ[i]? with
  | some (.dat fr d) => .val (.d fr d, Γ)
  | some (.own _) => .val (.s i, Γ)
  | some (.io _) => .val (.s i, Γ)
  | some (.lent _) => .val (.s i, Γ)
  | _ => .bad
theorem ce_var (C : Cf0 X W sc N) (i : Nat) {x : Str} (hN : N[i]? = some x) (hv : visB sc x = true)
    (hd : (x == ("__debug__" : Str)) = false := by decide +kernel) (hcd : (x == ("__classdict__" : Str)) = false := by decide +kernel) : CE X W (.Name x pos) (dVar i) := fun Γ => by
  unfold dVar
  split
  · exact evp_var C ‹_› hN hv hd hcd
  · exact evp_slot C (.inl ‹_›) hN hv hd hcd
  · exact evp_slot C (.inr (.inl ‹_›)) hN hv hd hcd
  · exact evp_slot C (.inr (.inr ‹_›)) hN hv hd hcd
  · exact ev_bad
def dC (d : PyData) : DF := fun Γ => .val (.d true d, Γ)
theorem ce_int {i : Int} {j : Nat} : CE X W (.Constant (.int i) j pos) (dC (.int i)) := fun Γ => evp_int (W := W)
theorem ce_bool {i : Bool} {j : Nat} : CE X W (.Constant (.bool i) j pos) (dC (.bool i)) := fun Γ => evp_bool (W := W)
theorem ce_none {j : Nat} : CE X W (.Constant .none j pos) (dC .none) := fun Γ => evp_none (W := W)
theorem ce_op2 {op : Operator} {r : R2} (k : AV → AV → List Sl → R (AV × List Sl)) (ho : OpR X (binaryOp op) r) (ha : CE X W a f) (hb : CE X W b g)
    (hk : ∀ x y Γ2 G H σ u v Q, Sta X.K G H σ Γ2 → AVok X.K G H σ u x → AVok X.K G H σ v y → Pk X W G H σ (k x y Γ2) Q → r u v H Q) : CE X W (.BinOp a op b pos) (fun Γ => (f Γ).bind fun x => (g x.2).bind fun y => k x.1 y.1 y.2) := fun Γ =>
  pe_imp (pe_op ho (ha Γ) (pe_any fun x : AV × List Sl => hb x.2)) fun σ H Q h => bin_rd (X := X) (W := W) (ava := Prod.fst) (Γa := Prod.snd) (avb := fun _ (y : AV × List Sl) => y.1) (Γb := fun _ (y : AV × List Sl) => y.2) (avk := Prod.fst) (Γk := Prod.snd) (k := fun (x : AV × List Sl) (y : AV × List Sl) => k x.1 y.1 y.2) (fun x y G H σ u v Q S hu hv p => hk x.1 y.1 y.2 G H σ u v Q S hu hv p) h
def dI (k : Int → Int → R Int) (f g : DF) : DF := fun Γ => (f Γ).bind fun x => (g x.2).bind fun y => match x.1, y.1 with
  | .d _ (.int i), .d _ (.int j) => (k i j).bind fun n => .val (.d true (.int n), y.2)
  | _, _ => .bad
theorem ce_ii {op : Operator} {h : Int → Int → Int} {P : Int → Int → Prop} {k : Int → Int → R Int} (hk : ∀ i j, k i j = .bad ∨ (P i j ∧ k i j = .val (h i j))) (ho : OpR X (binaryOp op) (rI P fun i j => .int (h i j))) (ha : CE X W a f) (hb : CE X W b g) : CE X W (.BinOp a op b pos) (dI k f g) := by
  refine ce_op2 (fun x y Γ2 => match x, y with
    | .d _ (.int i), .d _ (.int j) => (k i j).bind fun n => .val (.d true (.int n), Γ2)
    | _, _ => .bad) ho ha hb fun x y Γ2 G H σ u v Q S hu hv p => ?_
  split at p
  · rename_i i _ j
    rcases hk i j with e | ⟨hP, e⟩
    · rw [e] at p; exact p.elim
    · rw [e] at p
      exact ⟨i, j, dn_int hu, dn_int hv, hP, Pk.v p S (.int _)⟩
  · exact p.elim
theorem opI_of {F : Value → Value → Sem Value} {h : Int → Int → V} (ho : OpR X F (rI0 h)) : OpR X F (rI (fun _ _ => True) h) := fun pins s σ H x y v u Q I rx ry ⟨i, j, e1, e2, _, q⟩ => ho pins s σ H x y v u Q I rx ry ⟨i, j, e1, e2, q⟩
theorem opR_or {F : Value → Value → Sem Value} {r1 r2 : R2} (h1 : OpR X F r1) (h2 : OpR X F r2) : OpR X F (fun u v H Q => r1 u v H Q ∨ r2 u v H Q) := fun pins s σ H x y v u Q I rx ry z => z.elim (h1 pins s σ H x y v u Q I rx ry) (h2 pins s σ H x y v u Q I rx ry)
def gq {α : Type} (c : Bool) (a : α) : R α := (R.req c).bind fun _ => .val a
theorem gq_cases {α : Type} (c : Bool) (a : α) : gq c a = .bad ∨ (c = true ∧ gq c a = .val a) := by
  cases c
  · exact .inl rfl
  · exact .inr ⟨rfl, rfl⟩
def cMulX (i j : Int) : Bool := decide (i.natAbs < 2 ^ 64) || decide (j.natAbs < 2 ^ 64) || cMul i j
theorem op_mulG : OpR X (binaryOp .Mult) (rI (fun i j => cMulX i j = true) fun i j => .int (i * j)) := fun pins s σ H x y v u Q I rx ry ⟨i, j, e1, e2, c, q⟩ => by
  have c : cMulX i j = true := c
  unfold cMulX at c
  rw [Bool.or_eq_true, Bool.or_eq_true] at c
  rcases c with (c | c) | c
  · have c := of_decide_eq_true c
    exact op_mul pins s σ H x y v u Q I rx ry ⟨i, j, e1, e2, .inl (by omega), q⟩
  · have c := of_decide_eq_true c
    exact op_mul pins s σ H x y v u Q I rx ry ⟨i, j, e1, e2, .inr (by omega), q⟩
  · exact op_mulW pins s σ H x y v u Q I rx ry ⟨i, j, e1, e2, cMul_ok i j c, q⟩
abbrev kSub (i j : Int) : R Int := .val (i - j)
abbrev kAnd (i j : Int) : R Int := .val (Builtin.bitAnd i j)
abbrev kOr (i j : Int) : R Int := .val (Builtin.bitOr i j)
abbrev kMul (i j : Int) : R Int := gq (cMulX i j) (i * j)
abbrev kDiv (i j : Int) : R Int := gq (cDiv i j) (i / j)
abbrev kMod (i j : Int) : R Int := gq (cMod i j) (i % j)
abbrev kPow (i j : Int) : R Int := gq (cPow i j) (i ^ j.toNat)
abbrev kShl (i j : Int) : R Int := gq (cShl i j) (i * 2 ^ j.toNat)
abbrev kShr (i j : Int) : R Int := gq (cShr i j) (i / 2 ^ j.toNat)
theorem ce_sub (ha : CE X W a f) (hb : CE X W b g) : CE X W (.BinOp a .Sub b pos) (dI kSub f g) := ce_ii (fun i j => .inr ⟨trivial, rfl⟩) (opI_of op_sub) ha hb
theorem ce_band (ha : CE X W a f) (hb : CE X W b g) : CE X W (.BinOp a .BitAnd b pos) (dI kAnd f g) := ce_ii (fun i j => .inr ⟨trivial, rfl⟩) (opI_of op_and) ha hb
theorem ce_bor (ha : CE X W a f) (hb : CE X W b g) : CE X W (.BinOp a .BitOr b pos) (dI kOr f g) := ce_ii (fun i j => .inr ⟨trivial, rfl⟩) (opI_of op_or) ha hb
theorem ce_mul (ha : CE X W a f) (hb : CE X W b g) : CE X W (.BinOp a .Mult b pos) (dI kMul f g) := ce_ii (fun i j => gq_cases _ _) op_mulG ha hb
theorem gqP {P : Int → Int → Prop} {c : Int → Int → Bool} (h : ∀ i j, c i j = true → P i j) (k : Int → Int → Int) (i j : Int) : gq (c i j) (k i j) = .bad ∨ (P i j ∧ gq (c i j) (k i j) = .val (k i j)) := (gq_cases _ _).imp id fun z => ⟨h i j z.1, z.2⟩
theorem ce_fdiv (ha : CE X W a f) (hb : CE X W b g) : CE X W (.BinOp a .FloorDiv b pos) (dI kDiv f g) := ce_ii (gqP cDiv_ok fun i j => i / j) op_fdivW ha hb
theorem ce_mod (ha : CE X W a f) (hb : CE X W b g) : CE X W (.BinOp a .Mod b pos) (dI kMod f g) := ce_ii (gqP cMod_ok fun i j => i % j) op_mod ha hb
theorem ce_pow (ha : CE X W a f) (hb : CE X W b g) : CE X W (.BinOp a .Pow b pos) (dI kPow f g) := ce_ii (gqP cPow_ok fun i j => i ^ j.toNat) op_pow ha hb
theorem ce_shl (ha : CE X W a f) (hb : CE X W b g) : CE X W (.BinOp a .LShift b pos) (dI kShl f g) := ce_ii (gqP cShl_ok fun i j => i * 2 ^ j.toNat) op_shlW ha hb
theorem ce_shr (ha : CE X W a f) (hb : CE X W b g) : CE X W (.BinOp a .RShift b pos) (dI kShr f g) := ce_ii (gqP cShr_ok fun i j => i / 2 ^ j.toNat) op_shr ha hb
def rdD (Γ : List Sl) : AV → Option PyData
  | .d _ x => some x
  | .s i => match Γ[i]? with
    | some (.own (.lst es)) => some (.list es)
    | some (.io (.lst es)) => some (.list es)
    | some (.lent (.lst es)) => some (.list es)
    | _ => none
theorem rdD_ok {Γ : List Sl} {y : AV} {x : PyData} (h : rdD Γ y = some x) : Rdb Γ y x := by
  cases y with
  | d fr z => cases h; exact .d
  | s i =>
    unfold rdD at h
    simp only at h
    split at h
    · cases h; exact .o ‹_›
    · cases h; exact .i ‹_›
    · cases h; exact .l ‹_›
    · cases h
def addA : AV → AV → R AV
  | .d _ (.int i), .d _ (.int j) => .val (.d true (.int (i + j)))
  | .d f1 (.tuple xs), .d f2 (.tuple ys) => gq (szB (xs ++ ys)) (.d (f1 && f2) (.tuple (xs ++ ys)))
  | .d _ (.str x), .d _ (.str y) => gq (decide (x.length + y.length ≤ sizeLine)) (.d true (.str (x ++ y)))
  | _, _ => .bad
def dAdd (f g : DF) : DF := fun Γ => (f Γ).bind fun x => (g x.2).bind fun y => (addA x.1 y.1).bind fun z => .val (z, y.2)
theorem rg_and1 (G : Gh) (f1 f2 : Bool) : RgLe (rg G f1) (rg G (f1 && f2)) := by
  cases f1 <;> cases f2
  · exact fun _ _ h => h
  · exact fun _ _ h => h
  · exact rg_ff G true
  · exact fun _ _ h => h
theorem rg_and2 (G : Gh) (f1 f2 : Bool) : RgLe (rg G f2) (rg G (f1 && f2)) := by
  rw [Bool.and_comm]
  exact rg_and1 G f2 f1
theorem ce_add (ha : CE X W a f) (hb : CE X W b g) : CE X W (.BinOp a .Add b pos) (dAdd f g) := by
  refine ce_op2 (fun x y Γ2 => (addA x y).bind fun z => .val (z, Γ2)) (opR_or op_add (opR_or op_catA op_add_str)) ha hb fun x y Γ2 G H σ u v Q S hu hv p => ?_
  unfold addA at p
  split at p
  · rename_i i _ j
    exact .inl ⟨i, j, dn_int hu, dn_int hv, Pk.v p S (.int _)⟩
  · rename_i f1 xs f2 ys
    rcases gq_cases (szB (xs ++ ys)) (AV.d (f1 && f2) (.tuple (xs ++ ys))) with e | ⟨hc, e⟩
    · rw [e] at p; exact p.elim
    · rw [e] at p
      have hc := of_decide_eq_true hc
      obtain ⟨q1, vs, rfl, g1, g2⟩ := dn_tupleH hu
      obtain ⟨q2, ws, rfl, g3, g4⟩ := dn_tupleH hv
      have d1 := g2.mono (rg_and1 G f1 f2) (TupLe.rf H)
      have d2 := g4.mono (rg_and2 G f1 f2) (TupLe.rf H)
      refine .inr (.inl ⟨q1, q2, vs, ws, rfl, rfl, SqT.of g1, SqT.of g3, by rw [g2.length, g4.length]; simpa using hc, fun e1 => ?_, fun _ e2 => ?_, fun _ _ l hl => ?_⟩)
      · subst e1
        cases d1
        exact Pk.v p S (.tup g3 d2)
      · subst e2
        cases d2
        refine Pk.v p S ?_
        rw [List.append_nil]
        exact .tup g1 d1
      · obtain ⟨G2, S2, e2, h2⟩ := S.newTup hl (d1.append d2)
        exact Pk.v' p e2 S2 h2
  · rename_i x _ y
    rcases gq_cases (decide (x.length + y.length ≤ sizeLine)) (AV.d true (.str (x ++ y))) with e | ⟨hc, e⟩
    · rw [e] at p; exact p.elim
    · rw [e] at p
      exact .inr (.inr ⟨x, y, dn_str hu, dn_str hv, of_decide_eq_true hc, Pk.v p S (.str _)⟩)
  · exact p.elim
def dNeg (f : DF) : DF := fun Γ => (f Γ).bind fun x => match x.1 with
  | .d _ (.int i) => .val (.d true (.int (-i)), x.2)
  | _ => .bad
end
section
variable {X : Cx} {W : WX} {sc : Scope} {N : List Str} {a b c e : Expr} {pos : Pos} {f g : DF}
theorem Ev.exc {Γ : List Sl} {τ τ' : Type} {x : Exn} {av : τ → AV} {Γ' : τ → List Sl} {av2 : τ' → AV} {Γ2 : τ' → List Sl} (h : Ev X W Γ e (.exc x : R τ) av Γ') : Ev X W Γ e (.exc x : R τ') av2 Γ2 := pe_imp h fun σ H Q ⟨G, S, p⟩ => ⟨G, S, p⟩
theorem Ev.map {Γ : List Sl} {τ τ' : Type} {m : R τ} {k : τ → τ'} {av : τ' → AV} {Γ' : τ' → List Sl} (h : Ev X W Γ e m (fun r => av (k r)) (fun r => Γ' (k r))) : Ev X W Γ e (m.bind fun r => .val (k r)) av Γ' :=
  pe_imp h fun σ H Q ⟨G, S, p⟩ => ⟨G, S, by cases m <;> exact p⟩
theorem ce_cmp2 {op : CmpOp} {r : R2} (k : AV → AV → List Sl → R (AV × List Sl)) (ho : OpR X (compareOp op) r) (hm : behindInMarks op b = false) (ha : CE X W a f) (hb : CE X W b g)
    (hk : ∀ x y Γ2 G H σ u v Q, Sta X.K G H σ Γ2 → AVok X.K G H σ u x → AVok X.K G H σ v y → Pk X W G H σ (k x y Γ2) Q → r u v H Q) : CE X W (.Compare a [op] [b] pos) (fun Γ => (f Γ).bind fun x => (g x.2).bind fun y => k x.1 y.1 y.2) := fun Γ =>
  pe_imp (pe_cmpR ho (ha Γ) (pe_any fun x : AV × List Sl => hb x.2) hm) fun σ H Q h => bin_rd (X := X) (W := W) (ava := Prod.fst) (Γa := Prod.snd) (avb := fun _ (y : AV × List Sl) => y.1) (Γb := fun _ (y : AV × List Sl) => y.2) (avk := Prod.fst) (Γk := Prod.snd) (k := fun (x : AV × List Sl) (y : AV × List Sl) => k x.1 y.1 y.2) (fun x y G H σ u v Q S hu hv p => hk x.1 y.1 y.2 G H σ u v Q S hu hv p) h
def boolR (m : R Bool) (Γ : List Sl) : R (AV × List Sl) := m.bind fun b => .val (.d true (.bool b), Γ)
def dCmp (k : List Sl → AV → AV → R Bool) (f g : DF) : DF := fun Γ => (f Γ).bind fun x => (g x.2).bind fun y => boolR (k y.2 x.1 y.1) y.2
def kEq (Γ : List Sl) (x y : AV) : R Bool := match rdD Γ x, rdD Γ y with
  | some p, some q => gq (SeqAt.shaped p && SeqAt.shaped q) (PyData.eqv p q)
  | _, _ => .bad
def kNe (Γ : List Sl) (x y : AV) : R Bool := (kEq Γ x y).bind fun z => .val (!z)
theorem kEq_val {Γ : List Sl} {x y : AV} : (∃ p q, rdD Γ x = some p ∧ rdD Γ y = some q ∧ SeqAt.shaped p = true ∧ SeqAt.shaped q = true ∧ kEq Γ x y = .val (PyData.eqv p q)) ∨ kEq Γ x y = .bad := by
  unfold kEq
  split
  · rename_i p q h1 h2
    rcases gq_cases (SeqAt.shaped p && SeqAt.shaped q) (PyData.eqv p q) with e | ⟨hc, e⟩
    · exact .inr e
    · rw [Bool.and_eq_true] at hc
      exact .inl ⟨p, q, h1, h2, hc.1, hc.2, e⟩
  · exact .inr rfl
theorem ce_eq (C : Cf0 X W sc N) (ha : CE X W a f) (hb : CE X W b g) (hm : behindInMarks .Eq b = false := by first | exact nobehind _ (by decide) (by decide) | rfl) : CE X W (.Compare a [.Eq] [b] pos) (dCmp kEq f g) :=
  ce_cmp2 (fun x y Γ2 => boolR (kEq Γ2 x y) Γ2) (op_eqD C.hu) hm ha hb fun x y Γ2 G H σ u v Q S hu hv p => by
    rcases kEq_val (Γ := Γ2) (x := x) (y := y) with ⟨d, z, h1, h2, s1, s2, e⟩ | e
    · rw [e] at p
      exact ⟨d, z, ((rdD_ok h1).ok S hu).dps s1, ((rdD_ok h2).ok S hv).dps s2, s1, s2, Pk.v p S (.bl _)⟩
    · rw [e] at p; exact p.elim
theorem ce_ne (C : Cf0 X W sc N) (ha : CE X W a f) (hb : CE X W b g) (hm : behindInMarks .NotEq b = false := by first | exact nobehind _ (by decide) (by decide) | rfl) : CE X W (.Compare a [.NotEq] [b] pos) (dCmp kNe f g) :=
  ce_cmp2 (fun x y Γ2 => boolR (kNe Γ2 x y) Γ2) (op_neD C.hu) hm ha hb fun x y Γ2 G H σ u v Q S hu hv p => by
    unfold kNe at p
    rcases kEq_val (Γ := Γ2) (x := x) (y := y) with ⟨d, z, h1, h2, s1, s2, e⟩ | e
    · rw [e] at p
      exact ⟨d, z, ((rdD_ok h1).ok S hu).dps s1, ((rdD_ok h2).ok S hv).dps s2, s1, s2, Pk.v p S (.bl _)⟩
    · rw [e] at p; exact p.elim
def kI (h : Int → Int → Bool) (_ : List Sl) : AV → AV → R Bool
  | .d _ (.int i), .d _ (.int j) => .val (h i j)
  | _, _ => .bad
theorem ce_cmpI {op : CmpOp} {h : Int → Int → Bool} (ho : OpR X (compareOp op) (rI0 fun i j => .bl (h i j))) (ha : CE X W a f) (hb : CE X W b g) (hm : behindInMarks op b = false) : CE X W (.Compare a [op] [b] pos) (dCmp (kI h) f g) :=
  ce_cmp2 (fun x y Γ2 => boolR (kI h Γ2 x y) Γ2) ho hm ha hb fun x y Γ2 G H σ u v Q S hu hv p => by
    unfold kI at p
    split at p
    · rename_i i _ j
      exact ⟨i, j, dn_int hu, dn_int hv, Pk.v p S (.bl _)⟩
    · exact p.elim
theorem ce_lt (ha : CE X W a f) (hb : CE X W b g) (hm : behindInMarks .Lt b = false := by first | exact nobehind _ (by decide) (by decide) | rfl) : CE X W (.Compare a [.Lt] [b] pos) (dCmp (kI fun i j => decide (i < j)) f g) := ce_cmpI op_lt ha hb hm
theorem ce_gt (ha : CE X W a f) (hb : CE X W b g) (hm : behindInMarks .Gt b = false := by first | exact nobehind _ (by decide) (by decide) | rfl) : CE X W (.Compare a [.Gt] [b] pos) (dCmp (kI fun i j => decide (j < i)) f g) := ce_cmpI op_gt ha hb hm
def isN : PyData → Bool
  | .none => true
  | _ => false
def kIs (Γ : List Sl) (x y : AV) : R Bool := match rdD Γ x, y with
  | some p, .d _ .none => .val (isN p)
  | _, _ => .bad
theorem dn_isN {K : PySem.W.Frag} {G : Rg} {H : Hp} {v : V} {p : PyData} (h : Dn K G H v p) : decide (v = .non) = isN p := by cases h <;> rfl
theorem ce_is (ha : CE X W a f) (hb : CE X W b g) (hm : behindInMarks .Is b = false := by first | exact nobehind _ (by decide) (by decide) | rfl) : CE X W (.Compare a [.Is] [b] pos) (dCmp kIs f g) :=
  ce_cmp2 (fun x y Γ2 => boolR (kIs Γ2 x y) Γ2) op_isN hm ha hb fun x y Γ2 G H σ u v Q S hu hv p => by
    unfold kIs at p
    split at p
    · rename_i z _ h1
      refine ⟨dn_none hv, ?_⟩
      rw [dn_isN ((rdD_ok h1).ok S hu)]
      exact Pk.v p S (.bl _)
    · exact p.elim
def flD : PyData → Bool
  | .none => true
  | .bool _ => true
  | .int _ => true
  | .str _ => true
  | _ => false
def kIn (Γ : List Sl) (x y : AV) : R Bool := match rdD Γ x, rdD Γ y with
  | some d, some (.list ds) => gq (SeqAt.shaped d && SeqAt.shaped (.list ds)) (ds.any fun z => PyData.eqv z d)
  | some d, some (.tuple ds) => gq (flD d && ds.all flD) (ds.any fun z => PyData.eqv z d)
  | _, _ => .bad
theorem flD_ok {K : PySem.W.Frag} {G : Rg} {H : Hp} {v : V} {p : PyData} (h : Dn K G H v p) (hf : flD p = true) : flatV v = true := by cases h <;> first | rfl | cases hf
theorem eqV_ok {K : PySem.W.Frag} {G : Rg} {H : Hp} {v u : V} {p q : PyData} (h : Dn K G H v p) (h' : Dn K G H u q) (hf : flD p = true) (hq : flD q = true) : eqV v u = PyData.eqv p q := by
  cases h <;> first | cases hf; done | (cases h' <;> first | cases hq; done | (simp [eqV, PyData.eqv]))
theorem inV_ok {K : PySem.W.Frag} {G : Rg} {H : Hp} {v : V} {p : PyData} (h : Dn K G H v p) (hf : flD p = true) : ∀ {vs : List V} {ds : List PyData}, DnA K G H vs ds → ds.all flD = true → vs.all flatV = true ∧ inV v vs = ds.any fun z => PyData.eqv z p
  | _, _, .nil, _ => ⟨rfl, rfl⟩
  | _, _, .cons q r, hq => by
    simp only [List.all_cons, Bool.and_eq_true] at hq
    obtain ⟨h1, h2⟩ := inV_ok h hf r hq.2
    refine ⟨by simp [h1, flD_ok q hq.1], ?_⟩
    unfold inV at h2 ⊢
    rw [List.any_cons, List.any_cons, h2, eqV_ok q h hq.1 hf]
theorem kIn_cases {G : Gh} {H : Hp} {σ : St} {Γ : List Sl} {x y : AV} {u v : V} (S : Sta X.K G H σ Γ) (hu : AVok X.K G H σ u x) (hv : AVok X.K G H σ v y) : kIn Γ x y = .bad ∨ ∃ z, kIn Γ x y = .val z ∧
    ((∃ d ds, Dp X.K H u d ∧ Dp X.K H v (.list ds) ∧ SeqAt.shaped d = true ∧ SeqAt.shaped (.list ds) = true ∧ z = ds.any fun z => PyData.eqv z d) ∨
     (∃ p xs, v = .ref p ∧ SqT X.K H p xs ∧ flatV u = true ∧ xs.all flatV = true ∧ z = inV u xs)) := by
  unfold kIn
  split
  · rename_i d ds h1 h2
    rcases gq_cases (SeqAt.shaped d && SeqAt.shaped (.list ds)) (ds.any fun z => PyData.eqv z d) with e | ⟨hc, e⟩
    · exact .inl e
    · rw [Bool.and_eq_true] at hc
      exact .inr ⟨_, e, .inl ⟨d, ds, ((rdD_ok h1).ok S hu).dps hc.1, ((rdD_ok h2).ok S hv).dps hc.2, hc.1, hc.2, rfl⟩⟩
  · rename_i d ds h1 h2
    rcases gq_cases (flD d && ds.all flD) (ds.any fun z => PyData.eqv z d) with e | ⟨hc, e⟩
    · exact .inl e
    · rw [Bool.and_eq_true] at hc
      obtain ⟨p, xs, rfl, g1, g2⟩ := dn_tuple ((rdD_ok h2).ok S hv)
      obtain ⟨q1, q2⟩ := inV_ok ((rdD_ok h1).ok S hu) hc.1 g2 hc.2
      exact .inr ⟨_, e, .inr ⟨p, xs, rfl, g1, flD_ok ((rdD_ok h1).ok S hu) hc.1, q1, q2.symm⟩⟩
  · exact .inl rfl
def asB : AV × List Sl → R (Bool × List Sl)
  | (.d _ (.bool z), Γ) => .val (z, Γ)
  | _ => .bad
def dTst (f : DF) : DT := fun Γ => (f Γ).bind asB
theorem ct_lift {f : DF} (ha : CE X W e f) (h1 : ∀ Γ (z : Bool) (fr : Bool) (Γ1 : List Sl), Ev X W Γ e (R.val ()) (fun _ => .d fr (.bool z)) (fun _ => Γ1) → EvT X W Γ e (R.val ()) (fun _ => z) (fun _ => Γ1))
    (h2 : ∀ Γ x, Ev X W Γ e (.exc x : R Unit) (fun _ => .d true (.bool true)) (fun _ => Γ) → EvT X W Γ e (.exc x : R Unit) (fun _ => true) (fun _ => Γ)) : CT X W e (dTst f) := fun Γ => by
  have h := ha Γ
  unfold dTst
  cases hf : f Γ with
  | bad => exact evt_bad
  | exc x =>
    rw [hf] at h
    exact pt_imp (h2 Γ x (Ev.exc h)) fun σ H Q ⟨G, S, p⟩ => ⟨G, S, p⟩
  | val z =>
    rw [hf] at h
    obtain ⟨y, Γ1⟩ := z
    show EvT X W Γ e (asB (y, Γ1)) _ _
    unfold asB
    split
    · rename_i hz
      cases hz
      exact h1 Γ _ _ _ h
    · exact evt_bad
theorem ct_of (ha : CE X W e f) (he : ∀ whole, isTrue e X.env whole = (do let v ← whole; standAt e.pos; holding [v] (truthy v)) := by intro _; rfl) : CT X W e (dTst f) := ct_lift ha (fun Γ z fr Γ1 h => Ev.tst h he) (fun Γ x h => Ev.tst h he)
theorem ct_cmp {op : CmpOp} (ha : CE X W (.Compare a [op] [b] pos) f) (hm : behindInMarks op b = false := by first | exact nobehind _ (by decide) (by decide) | rfl) : CT X W (.Compare a [op] [b] pos) (dTst f) := ct_lift ha (fun Γ z fr Γ1 h => Ev.tstC h hm) (fun Γ x h => Ev.tstC h hm)
def dTnot (f : DT) : DT := fun Γ => (f Γ).bind fun z => .val (!z.1, z.2)
theorem EvT.map {Γ : List Sl} {τ τ' : Type} {m : R τ} {k : τ → τ'} {av : τ' → Bool} {Γ' : τ' → List Sl} (h : EvT X W Γ e m (fun r => av (k r)) (fun r => Γ' (k r))) : EvT X W Γ e (m.bind fun r => .val (k r)) av Γ' :=
  pt_imp h fun σ H Q ⟨G, S, p⟩ => ⟨G, S, by cases m <;> exact p⟩
theorem ct_not {f : DT} (ha : CT X W a f) : CT X W (.UnaryOp .Not a pos) (dTnot f) := fun Γ => EvT.map (evt_notM (ha Γ))
theorem ct_w {f : DT} (h : CW X W e f) : CT X W e f := fun Γ => (h Γ).t
variable {rest : List Expr}
theorem cw_or1 {f : DT} (h : CT X W a f) : CW X W (.BoolOp .Or [a] pos) f := fun Γ => evw_orM1 (h Γ)
theorem cw_and1 {f : DT} (h : CT X W a f) : CW X W (.BoolOp .And [a] pos) f := fun Γ => evw_andM1 (h Γ)
def dTor (f g : DT) : DT := fun Γ => (f Γ).bind fun x => if x.1 then .val (true, x.2) else (g x.2).bind fun y => .val y
def dTand (f g : DT) : DT := fun Γ => (f Γ).bind fun x => if x.1 then (g x.2).bind fun y => .val y else .val (false, x.2)
theorem cw_or {f g : DT} (ha : CT X W a f) (hb : CW X W (.BoolOp .Or (b :: rest) pos) g) : CW X W (.BoolOp .Or (a :: b :: rest) pos) (dTor f g) := fun Γ => evw_orM (ha Γ) (fun x => hb x.2) (fun x => (true, x.2)) (fun _ y => y)
theorem cw_and {f g : DT} (ha : CT X W a f) (hb : CW X W (.BoolOp .And (b :: rest) pos) g) : CW X W (.BoolOp .And (a :: b :: rest) pos) (dTand f g) := fun Γ => evw_andM (ha Γ) (fun x => hb x.2) (fun x => (false, x.2)) (fun _ y => y)
end
section
variable {X : Cx} {W : WX} {sc : Scope} {N : List Str} {a b c e : Expr} {es : List Expr} {pos p : Pos} {f g : DF} {k : DA}
theorem ce_one {op : BoolOp} (ha : CE X W a f) : CE X W (.BoolOp op [a] pos) f := fun Γ => evv_oneM (ha Γ)
variable {rest : List Expr}
def dAnd (f g : DF) : DF := fun Γ => (f Γ).bind fun x => (asB x).bind fun u => if u.1 then (g u.2).bind fun y => (asB y).bind fun z => .val (.d true (.bool z.1), z.2) else .val (.d true (.bool false), u.2)
def dOr (f g : DF) : DF := fun Γ => (f Γ).bind fun x => (asB x).bind fun u => if u.1 then .val (.d true (.bool true), u.2) else (g u.2).bind fun y => (asB y).bind fun z => .val (.d true (.bool z.1), z.2)
theorem ce_and (ha : CE X W a f) (hb : CE X W (.BoolOp .And (b :: rest) pos) g) : CE X W (.BoolOp .And (a :: b :: rest) pos) (dAnd f g) := fun Γ =>
  pe_imp (pe_and (ha Γ) (pe_any fun Γ1 => hb Γ1)) fun σ H Q ⟨G, S, q⟩ => ⟨G, S, (Pst.bind q).imp fun x G1 H1 e1 p1 v S1 hv => by
    obtain ⟨x, Γ1⟩ := x
    unfold asB at p1
    split at p1
    · rename_i z Γ2 hz
      cases hz
      refine ⟨_, dn_bool hv, ?_⟩
      have p1 : Pst X W G1 H1 σ (if z then (g Γ1).bind fun y => (asB y).bind fun z => .val (.d true (.bool z.1), z.2) else .val (.d true (.bool false), Γ1)) (fun r G' H' => ∀ w, Sta X.K G' H' σ r.2 → AVok X.K G' H' σ w r.1 → Q w H') := p1
      cases z with
      | false => exact itF (p1 G1 H1 (Ext.rf S1.w) _ S1 (.bl _))
      | true =>
        refine itT ⟨Γ1, G1, S1, (Pst.bind p1).imp fun y G2 H2 e2 p2 w S2 hw => ?_⟩
        obtain ⟨y, Γ2⟩ := y
        unfold asB at p2
        split at p2
        · rename_i hz
          cases hz
          have hw : Dn X.K _ H2 w (.bool _) := hw
          rw [dn_bool hw]
          exact p2 G2 H2 (Ext.rf S2.w) _ S2 (.bl _)
        · exact p2.elim
    · exact p1.elim⟩
theorem ce_or (ha : CE X W a f) (hb : CE X W (.BoolOp .Or (b :: rest) pos) g) : CE X W (.BoolOp .Or (a :: b :: rest) pos) (dOr f g) := fun Γ =>
  pe_imp (pe_or (ha Γ) (pe_any fun Γ1 => hb Γ1)) fun σ H Q ⟨G, S, q⟩ => ⟨G, S, (Pst.bind q).imp fun x G1 H1 e1 p1 v S1 hv => by
    obtain ⟨x, Γ1⟩ := x
    unfold asB at p1
    split at p1
    · rename_i z Γ2 hz
      cases hz
      refine ⟨_, dn_bool hv, ?_⟩
      have p1 : Pst X W G1 H1 σ (if z then .val (.d true (.bool true), Γ1) else (g Γ1).bind fun y => (asB y).bind fun z => .val (.d true (.bool z.1), z.2)) (fun r G' H' => ∀ w, Sta X.K G' H' σ r.2 → AVok X.K G' H' σ w r.1 → Q w H') := p1
      cases z with
      | true => exact itT (p1 G1 H1 (Ext.rf S1.w) _ S1 (.bl _))
      | false =>
        refine itF ⟨Γ1, G1, S1, (Pst.bind p1).imp fun y G2 H2 e2 p2 w S2 hw => ?_⟩
        obtain ⟨y, Γ2⟩ := y
        unfold asB at p2
        split at p2
        · rename_i hz
          cases hz
          have hw : Dn X.K _ H2 w (.bool _) := hw
          rw [dn_bool hw]
          exact p2 G2 H2 (Ext.rf S2.w) _ S2 (.bl _)
        · exact p2.elim
    · exact p1.elim⟩
def dNot (f : DF) : DF := fun Γ => (f Γ).bind fun x => (asB x).bind fun u => .val (.d true (.bool (!u.1)), u.2)
def dA0 : DA := fun Γ => .val ([], Γ)
def dAc (f : DF) (k : DA) : DA := fun Γ => (f Γ).bind fun x => (k x.2).bind fun y => .val (x.1 :: y.1, y.2)
theorem ca_nil : CA X W [] dA0 := fun Γ => eva_nil (W := W)
theorem ca_cons (ha : CE X W e f) (hb : CA X W es k) (hst : starEach (e :: es) X.env = (false, eval e X.env) :: starEach es X.env := by rfl) : CA X W (e :: es) (dAc f k) := fun Γ => eva_cons (as := Prod.fst) (Γk := Prod.snd) (fun (x : AV × List Sl) (y : List AV × List Sl) => (x.1 :: y.1, y.2)) (ha Γ) (fun x => hb x.2) (fun _ _ => rfl) (fun _ _ => rfl) hst
def frzA : AV × List Sl → R (AV × List Sl)
  | (.d true d, Γ) => .val (.d true d, Γ)
  | (.d false d, Γ) => .val (.d (flat d) d, Γ)
  | (.s i, Γ) => match Γ[i]? with
    | some (.own (.lst es)) => .val (.d true (.list es), Γ.set i (.dat true (.list es)))
    | _ => .bad
def dFrz (f : DF) : DF := fun Γ => (f Γ).bind frzA
theorem Pk.ext {G G' : Gh} {H H' : Hp} {σ : St} {m : R (AV × List Sl)} {Q : VK} (h : Pk X W G H σ m Q) (e : Ext G H G' H') : Pk X W G' H' σ m Q := Pst.ext h e
theorem frz_ok {G : Gh} {H : Hp} {σ : St} {x : AV} {Γ : List Sl} {v : V} {Q : VK} (S : Sta X.K G H σ Γ) (hv : AVok X.K G H σ v x) (p : Pk X W G H σ (frzA (x, Γ)) Q) : Q v H := by
  unfold frzA at p
  split at p
  · rename_i hz; cases hz; exact Pk.v p S hv
  · rename_i d Γ2 hz
    cases hz
    refine Pk.v p S ?_
    cases hf : flat d with
    | false => exact hv
    | true => exact Dn.free hv hf
  · rename_i i Γ2 hz
    cases hz
    split at p
    · rename_i ds hi
      obtain ⟨A, T⟩ := id S
      obtain ⟨G2, S2, e2⟩ := S.freeze i hi
      have h2 : (Γ.set i (.dat true (.list ds)))[i]? = some (.dat true (.list ds)) := set_at (List.getElem?_eq_some_iff.mp hi).1
      obtain ⟨A2, T2⟩ := id S2
      obtain ⟨_, w, g1, g2⟩ := T2.sl i _ h2
      have hv : σ[i]? = some (some v) := hv
      rw [hv] at g1
      cases g1
      exact Pk.v' p e2 S2 g2
    · exact p.elim
theorem ce_frz (ha : CE X W e f) : CE X W e (dFrz f) := fun Γ =>
  pe_imp (ha Γ) fun σ H Q ⟨G, S, q⟩ => ⟨G, S, (Pst.bind q).imp fun x G1 H1 e1 p1 v S1 hv => frz_ok (x := x.1) (Γ := x.2) S1 hv p1⟩
def avD : AV → Option PyData
  | .d true d => some d
  | _ => none
def allT : List AV → Option (List PyData)
  | [] => some []
  | .d true d :: as => (allT as).map (d :: ·)
  | _ => none
def allF : List AV → Option (List PyData × Bool)
  | [] => some ([], true)
  | .d fr d :: as => (allF as).map fun z => (d :: z.1, fr && z.2)
  | _ => none
theorem allT_ok {K : PySem.W.Frag} {G : Gh} {H : Hp} {σ : St} : ∀ {as : List AV} {ds : List PyData} {vs : List V}, allT as = some ds → AVs K G H σ vs as → DnA K (rg G true) H vs ds
  | [], _, _, h, .nil => by cases h; exact .nil
  | .d true d :: as, ds, _, h, .cons q r => by
    unfold allT at h
    cases e : allT as with
    | none => rw [e] at h; cases h
    | some xs => rw [e] at h; cases h; exact .cons q (allT_ok e r)
  | .d false d :: as, ds, _, h, _ => by cases h
  | .s i :: as, ds, _, h, _ => by cases h
theorem allF_ok {K : PySem.W.Frag} {G : Gh} {H : Hp} {σ : St} : ∀ {as : List AV} {z : List PyData × Bool} {vs : List V}, allF as = some z → AVs K G H σ vs as → DnA K (rg G z.2) H vs z.1
  | [], _, _, h, .nil => by cases h; exact .nil
  | .d fr d :: as, ds, _, h, .cons q r => by
    unfold allF at h
    cases e : allF as with
    | none => rw [e] at h; cases h
    | some xs =>
      rw [e] at h
      cases h
      exact .cons (Dn.mono (rg_and1 G fr xs.2) (TupLe.rf _) q) ((allF_ok e r).mono (rg_and2 G fr xs.2) (TupLe.rf _))
  | .s i :: as, ds, _, h, _ => by cases h
def dLst (k : DA) : DN := fun Γ => (k Γ).bind fun z => match allT z.1 with
  | some ds => gq (szB z.1) (ds, z.2)
  | none => .bad
theorem cn_lst (ha : CA X W es k) : CN X W (.List es pos) (dLst k) := fun Γ =>
  pe_imp (pe_lst (ha Γ)) fun σ H Q ⟨G, S, q⟩ => ⟨G, S, (Pst.bind q).imp fun x G1 H1 e1 p1 vs S1 av => by
    split at p1
    · rename_i ds hd
      rcases gq_cases (szB x.1) (ds, x.2) with e | ⟨hc, e⟩
      · rw [e] at p1; exact p1.elim
      · rw [e] at p1
        exact ⟨by rw [av.len]; exact of_decide_eq_true hc, fun q hq => p1 G1 H1 (Ext.rf S1.w) q vs S1 hq (allT_ok hd av)⟩
    · exact p1.elim⟩
def dTup (k : DA) : DF := fun Γ => (k Γ).bind fun z => match allF z.1 with
  | some ds => gq (szB z.1) (.d ds.2 (.tuple ds.1), z.2)
  | none => .bad
theorem ce_tup {kk : Nat} (ha : CA X W es k) : CE X W (.Tuple es kk pos) (dTup k) := fun Γ =>
  pe_imp (pe_tup (ha Γ)) fun σ H Q ⟨G, S, q⟩ => ⟨G, S, (Pst.bind q).imp fun x G1 H1 e1 p1 vs S1 av => by
    split at p1
    · rename_i ds hd
      rcases gq_cases (szB x.1) (AV.d ds.2 (.tuple ds.1), x.2) with e | ⟨hc, e⟩
      · rw [e] at p1; exact p1.elim
      · rw [e] at p1
        refine ⟨by rw [av.len]; exact of_decide_eq_true hc, fun q hq => ?_⟩
        obtain ⟨G2, S2, e2, h2⟩ := S1.newTup hq (allF_ok hd av)
        exact p1 G2 _ e2 _ S2 h2
    · exact p1.elim⟩
def dOfN (n : DN) : DF := fun Γ => (n Γ).bind fun z => .val (.d true (.list z.1), z.2)
theorem ce_ofN {n : DN} (h : CN X W e n) : CE X W e (dOfN n) := fun Γ => Ev.map (k := fun z : List PyData × List Sl => (AV.d true (.list z.1), z.2)) (EvF.ev (h Γ))
def ixA (Γ : List Sl) (x y : AV) : R AV := match x, y with
  | .d fr (.list ds), .d _ (.int i) => (R.ofO (atI ds i)).bind fun d => .val (.d fr d)
  | .d fr (.tuple ds), .d _ (.int i) => (R.ofO (atI ds i)).bind fun d => .val (.d fr d)
  | .s j, .d _ (.int i) => match rdD Γ (.s j) with
    | some (.list ds) => (R.ofO (atI ds i)).bind fun d => .val (.d true d)
    | _ => .bad
  | _, _ => .bad
theorem Sta.slotL {K : PySem.W.Frag} {G : Gh} {H : Hp} {σ : St} {Γ : List Sl} {j : Nat} {ds : List PyData} {u : V} (S : Sta K G H σ Γ) (h : rdD Γ (.s j) = some (.list ds)) (hu : σ[j]? = some (some u)) : ∃ p vs, u = .ref p ∧ H p = some (.lst vs) ∧ DnA K (rg G true) H vs ds := by
  have hg : Γ[j]? = some (.own (.lst ds)) ∨ Γ[j]? = some (.io (.lst ds)) ∨ Γ[j]? = some (.lent (.lst ds)) := by
    unfold rdD at h
    simp only at h
    split at h
    · cases h; exact .inl ‹_›
    · cases h; exact .inr (.inl ‹_›)
    · cases h; exact .inr (.inr ‹_›)
    · cases h
  have : ∃ p vs, σ[j]? = some (some (.ref p)) ∧ H p = some (.lst vs) ∧ DnA K (rg G true) H vs ds := by
    rcases hg with hg | hg | hg
    · obtain ⟨p, vs, q1, q2, q3, _⟩ := S.change j hg
      exact ⟨p, vs, q1, q2, q3⟩
    · obtain ⟨p, vs, q1, q2, q3, _⟩ := S.changeIo j hg
      exact ⟨p, vs, q1, q2, q3⟩
    · obtain ⟨p, vs, q1, q2, _, q3⟩ := S.lentL hg
      exact ⟨p, vs, q1, q2, q3⟩
  obtain ⟨p, vs, q1, q2, q3⟩ := this
  rw [q1] at hu
  cases hu
  exact ⟨p, vs, rfl, q2, q3⟩
end
end PD
set_option Elab.async false
set_option linter.all false
set_option maxRecDepth 100000
set_option maxHeartbeats 4000000
set_option autoImplicit false
namespace PD
open PySem L2
def NewC (K : PySem.W.Frag) (G : Rg) (H : Hp) (c : Cl) (v : V) (H' : Hp) : Prop := ∃ fp : List Addr, (∀ a, a ∉ fp → H' a = H a) ∧ (∀ p ∈ fp, H p = none ∧ H' p ≠ none) ∧ c.ok K G H' v fp
theorem newc_lst {K : PySem.W.Frag} {G : Rg} {H : Hp} {p : Addr} {vs : List V} {ds : List PyData} (hp : H p = none) (hd : DnA K G H vs ds) : NewC K G H (.lst ds) (.ref p) (upd H p (.lst vs)) :=
  ⟨[p], fun a h => upd_ne (by simpa using h), fun q hq => by
    have : q = p := by simpa using hq
    subst this
    exact ⟨hp, by rw [upd_same]; simp⟩, p, vs, rfl, rfl, upd_same, hd.mono (fun _ _ z => z) (tup_upd hp)⟩
theorem NewC.grow {K : PySem.W.Frag} {G : Gh} {H H' : Hp} {R' : Rg} {c : Cl} {v : V} (w : Wf G H) {fp : List Addr} (h1 : ∀ a, a ∉ fp → H' a = H a) (h2 : ∀ p ∈ fp, H p = none ∧ H' p ≠ none) : Grow G H G.N H' [] := by
  have k : ∀ a o, H a = some o → H' a = some o := fun a o h => by
    rw [h1 a fun hp => by rw [(h2 a hp).1] at h; cases h]
    exact h
  exact ⟨fun a o h _ => k a o h, fun _ h => absurd h (by simp), fun a xs h => k _ _ h, fun _ _ h => h, fun a o h => ⟨k _ _ (w.new a o h).1, .inl h⟩⟩
theorem Sta.putC {K : PySem.W.Frag} {G : Gh} {H H' : Hp} {σ : St} {Γ : List Sl} {c : Cl} {v : V} (s : Sta K G H σ Γ) (i : Nat) (h : NewC K (rg G true) H c v H') : Sta K G H' (σ.set i (some v)) (Γ.set i (.own c)) ∧ Ext G H G H' := by
  obtain ⟨A, S⟩ := s
  obtain ⟨fp, h1, h2, h3⟩ := h
  refine S.step (i := i) (fp' := fp) (NewC.grow (K := K) (R' := rg G true) (c := c) (v := v) S.w h1 h2) (fun p hp => absurd hp (by simp)) (fun j hj => List.getElem?_set_ne (Ne.symm hj)) (List.length_set ..) (fun hlt => ⟨v, ?_, fun q hq => ?_, h3⟩) (fun q hq => ?_)
  · exact set_at (by rw [← S.len]; exact hlt)
  · exact (S.w.fresh (h2 q hq).1).2.1
  · exact ⟨(h2 q hq).2, (S.w.fresh (h2 q hq).1).1, .inr (h2 q hq).1⟩
theorem Cl.nt {K : PySem.W.Frag} {G : Rg} {H : Hp} {v : V} {fp : List Addr} {c : Cl} (h : c.ok K G H v fp) : ∀ p ∈ fp, ∃ o, H p = some o ∧ (∀ xs, o ≠ .tup xs) ∧ ∀ x y, o ≠ .frz x y := by
  cases c with
  | lst ds =>
    obtain ⟨p, vs, rfl, rfl, h1, h2⟩ := h
    intro q hq
    have : q = p := by simpa using hq
    subst this
    exact ⟨_, h1, fun _ z => (nomatch z), fun _ _ z => (nomatch z)⟩
  | tr T => exact h.1.nt
  | mul t l => exact h.1.nt
  | dic t kvs =>
    obtain ⟨p, o, vs, rfl, rfl, h1, h2, h3⟩ := h
    intro q hq
    have : q = p := by simpa using hq
    subst this
    cases t with
    | k => obtain ⟨_, rfl, _⟩ := h2; exact ⟨_, h1, fun _ z => (nomatch z), fun _ _ z => (nomatch z)⟩
    | t => obtain ⟨_, rfl, _⟩ := h2; exact ⟨_, h1, fun _ z => (nomatch z), fun _ _ z => (nomatch z)⟩
    | n => obtain ⟨_, _, rfl, _⟩ := h2; exact ⟨_, h1, fun _ z => (nomatch z), fun _ _ z => (nomatch z)⟩
  | feed f =>
    obtain ⟨d, l, rfl, rfl, h3, h4, h5⟩ := h
    intro q hq
    simp only [List.mem_cons, List.not_mem_nil, or_false] at hq
    rcases hq with rfl | rfl
    · exact ⟨_, h4, fun _ z => (nomatch z), fun _ _ z => (nomatch z)⟩
    · exact ⟨_, h5, fun _ z => (nomatch z), fun _ _ z => (nomatch z)⟩
theorem Sta.releaseC {K : PySem.W.Frag} {G : Gh} {H : Hp} {σ : St} {Γ : List Sl} {c : Cl} (s : Sta K G H σ Γ) (i : Nat) (hi : Γ[i]? = some (.own c)) :
    ∃ v H', σ[i]? = some (some v) ∧ Sta K G H' σ (Γ.set i .un) ∧ Ext G H G H' ∧ NewC K (rg G true) H' c v H := by
  obtain ⟨A, S⟩ := s
  obtain ⟨v, h1, h0, hc⟩ := S.sl i _ hi
  have nt := Cl.nt hc
  let H' : Hp := fun a => if a ∈ A i then none else H a
  have hne : ∀ a, a ∉ A i → H' a = H a := fun a h => if_neg h
  have hin : ∀ a, a ∈ A i → H' a = none := fun a h => if_pos h
  have nA : ∀ j, j ≠ i → ∀ p, p ∈ A j → p ∉ A i := fun j hj p h h' => hj (S.dj j i p h h')
  have t : TupLe H H' := fun a xs h => by
    rw [hne a fun z => by obtain ⟨o, e, q, _⟩ := nt a z; rw [e] at h; exact q xs (Option.some.inj h)]
    exact h
  have w : Wf G H' := by
    refine ⟨fun a u h h2 => ?_, fun a u h => ?_, fun a h => ?_, S.w.p0, fun a u h => ?_, fun i q h => (S.w.iv i q h).imp id fun z => z.imp id fun ⟨xs, z⟩ => ⟨xs, t q xs z⟩⟩
    · rw [hne a fun z => by rw [h0 a z] at h; cases h]
      exact S.w.keep a u h h2
    · rw [hne a fun z => by rw [(S.al i a z).2.1] at h; cases h]
      exact S.w.new a u h
    · rw [hne a fun z => S.w.p0 a h (h0 a z)]
      exact S.w.pal a h
    · rw [hne a fun z => by rw [S.ae i a z] at h; cases h]
      exact S.w.ex a u h
  have e : Ext G H G H' := ⟨rfl, rfl, rfl, rfl, fun _ _ h => h, fun _ _ h => .inl h, t, w⟩
  refine ⟨v, H', h1, ⟨fun j => if j = i then [] else A j, w, by rw [List.length_set]; exact S.len, fun j s h => ?_, fun j q h => ?_, fun j q h => ?_, fun j k q h h2 => ?_, rf_set S.rf rfl (fun j hj => if_neg hj) (fun _ _ => rfl)⟩, e, A i, fun a h => (hne a h).symm, fun p hp => ⟨hin p hp, (S.al i p hp).1⟩, hc⟩
  · by_cases hj : j = i
    · subst hj
      rw [List.getElem?_set_self (List.getElem?_eq_some_iff.mp hi).1] at h
      cases h
      show (if j = j then [] else A j) = []
      rw [if_pos rfl]
    · rw [List.getElem?_set_ne (Ne.symm hj)] at h
      show SlOk K G H' j σ[j]? (if j = i then [] else A j) s
      rw [if_neg hj]
      exact (S.sl j s h).mono e fun a ha => hne a (nA j hj a ha)
  · by_cases hj : j = i
    · rw [if_pos hj] at h; cases h
    · rw [if_neg hj] at h
      exact ⟨by rw [hne q (nA j hj q h)]; exact (S.al j q h).1, (S.al j q h).2⟩
  · by_cases hj : j = i
    · rw [if_pos hj] at h; cases h
    · rw [if_neg hj] at h
      exact S.ae j q h
  · by_cases hj : j = i
    · rw [if_pos hj] at h; cases h
    · by_cases hk : k = i
      · rw [if_pos hk] at h2; cases h2
      · rw [if_neg hj] at h
        rw [if_neg hk] at h2
        exact S.dj j k q h h2
def frzC : Cl → Option PyData
  | .lst ds => some (.list ds)
  | .dic _ _ => none
  | .feed _ => none
  | .tr T => trD T
  | .mul _ _ => none
theorem NewC.frz {K : PySem.W.Frag} {G : Gh} {H H' : Hp} {σ : St} {Γ : List Sl} {c : Cl} {v : V} {d : PyData} (S : Sta K G H σ Γ) (h : NewC K (rg G true) H c v H') (hd : frzC c = some d) :
    ∃ G', Sta K G' H' σ Γ ∧ Ext G H G' H' ∧ Dn K (rg G' true) H' v d := by
  have key : ∀ p o, (∀ a, a ∉ [p] → H' a = H a) → H p = none → H' p = some o → ∃ G', Sta K G' H' σ Γ ∧ Ext G H G' H' ∧ RgLe (rg G true) (rg G' true) ∧ rg G' true p o := fun p o h1 hp ho => by
    have e : H' = upd H p o := by
      funext a
      by_cases q : a = p
      · subst q; rw [upd_same]; exact ho
      · rw [upd_ne q]; exact h1 a (by simpa using q)
    subst e
    obtain ⟨S2, e2⟩ := S.grow (grow_new (o := o) S.w hp)
    exact ⟨_, S2, e2, e2.n, upd_same⟩
  obtain ⟨fp, h1, h2, h3⟩ := h
  cases c with
  | lst ds =>
    cases hd
    obtain ⟨p, vs, rfl, rfl, g1, g2⟩ := h3
    obtain ⟨G', S', e', l, q⟩ := key p _ h1 (h2 p (by simp)).1 g1
    exact ⟨G', S', e', .lst (.inl q) (g2.mono l (TupLe.rf _))⟩
  | dic t kvs => cases hd
  | feed f => cases hd
  | tr T =>
    have hin : ∀ a ∈ fp, H a = none := fun a ha => (h2 a ha).1
    let N' : Hp := fun a => if a ∈ fp then H' a else G.N a
    have nN : ∀ a o, G.N a = some o → a ∉ fp := fun a o e z => by
      have := (S.w.new a o e).1
      rw [hin a z] at this; cases this
    have g : Grow G H N' H' [] := by
      have k : ∀ a o, H a = some o → H' a = some o := fun a o e => by
        rw [h1 a fun z => by rw [hin a z] at e; cases e]; exact e
      refine ⟨fun a o e _ => k a o e, fun _ z => absurd z (by simp), fun a xs e => k _ _ e, fun a o e => ?_, fun a o e => ?_⟩
      · show (if a ∈ fp then H' a else G.N a) = some o
        rw [if_neg (nN a o e)]; exact e
      · have e : (if a ∈ fp then H' a else G.N a) = some o := e
        by_cases z : a ∈ fp
        · rw [if_pos z] at e; exact ⟨e, .inr (hin a z)⟩
        · rw [if_neg z] at e; exact ⟨k _ _ (S.w.new a o e).1, .inl e⟩
    obtain ⟨S2, e2⟩ := S.grow g
    refine ⟨_, S2, e2, TreOk.dn e2.n h3.1 (fun a ha o ho => ?_) d hd⟩
    show (if a ∈ fp then H' a else G.N a) = some o
    rw [if_pos ha]; exact ho
  | mul t l => cases hd
theorem Sta.freezeC {K : PySem.W.Frag} {G : Gh} {H : Hp} {σ : St} {Γ : List Sl} {c : Cl} {d : PyData} (s : Sta K G H σ Γ) (i : Nat) (hi : Γ[i]? = some (.own c)) (hd : frzC c = some d) : ∃ G', Sta K G' H σ (Γ.set i (.dat true d)) ∧ Ext G H G' H := by
  obtain ⟨v, H', h1, S1, e1, n⟩ := s.releaseC i hi
  obtain ⟨G', S2, e2, d2⟩ := n.frz S1 hd
  have S3 := S2.put i d2
  have hs : σ.set i (some v) = σ := by
    apply List.ext_getElem?
    intro j
    by_cases hj : j = i
    · subst hj
      have hl : j < σ.length := (List.getElem?_eq_some_iff.mp h1).1
      rw [List.getElem?_set_self hl, h1]
    · rw [List.getElem?_set_ne (Ne.symm hj)]
  rw [hs, List.set_set] at S3
  exact ⟨G', S3, ⟨e2.h0, e2.p, e2.i, e2.e, e2.n, e2.nn, TupLe.rf _, S3.w⟩⟩
abbrev DC := List Sl → R (Cl × List Sl)
inductive Rs where
  | d (x : PyData)
  | c (x : Cl)
inductive Fw where
  | nx
  | bk
  | ct
  | rt (r : Rs)
abbrev DS := List Sl → R (Fw × List Sl)
def rdC (X : Cx) (W : WX) (Γ : List Sl) (m : R (Cl × List Sl)) : TE := fun σ H Q => ∃ G, Sta X.K G H σ Γ ∧ Pst X W G H σ m fun r G' H' => ∀ v H2, Sta X.K G' H' σ r.2 → NewC X.K (rg G' true) H' r.1 v H2 → Q v H2
def CC (X : Cx) (W : WX) (e : Expr) (f : DC) : Prop := ∀ Γ, PE X e (rdC X W Γ (f Γ))
def FinU (K : PySem.W.Frag) (G : Gh) (H : Hp) (D : Ends) (Γ : List Sl) : Fw → Prop
  | .nx => ∀ σ, Sta K G H σ Γ → D.nx σ H
  | .bk => ∀ σ, Sta K G H σ Γ → D.bk σ H
  | .ct => ∀ σ, Sta K G H σ Γ → D.ct σ H
  | .rt (.d x) => ∀ σ v, Sta K G H σ Γ → Dn K (rg G true) H v x → D.rt v H
  | .rt (.c c) => ∀ σ v H2, Sta K G H σ Γ → NewC K (rg G true) H c v H2 → D.rt v H2
def rdB (X : Cx) (W : WX) (Γ : List Sl) (m : R (Fw × List Sl)) : TS := fun D σ H => ∃ G, Sta X.K G H σ Γ ∧ Pst X W G H σ m fun z G' H' => FinU X.K G' H' D z.2 z.1
def C1 (X : Cx) (W : WX) (s : Stmt) (f : DS) : Prop := ∀ Γ, PS X s (rdB X W Γ (f Γ))
def CS (X : Cx) (W : WX) (ss : List Stmt) (f : DS) : Prop := ∀ Γ, PSs X ss (rdB X W Γ (f Γ))
theorem ps_imp {X : Cx} {s : Stmt} {t t' : TS} (h : PS X s t) (k : ∀ D σ H, t' D σ H → t D σ H) : PS X s t' := ⟨fun pins s σ H D I z => h.run pins s σ H D I (k D σ H z)⟩
theorem pss_imp {X : Cx} {s : List Stmt} {t t' : TS} (h : PSs X s t) (k : ∀ D σ H, t' D σ H → t D σ H) : PSs X s t' := ⟨fun pins s σ H D I z => h.run pins s σ H D I (k D σ H z)⟩
theorem pss_any {X : Cx} {s : List Stmt} {α : Type} {t : α → TS} (h : ∀ x, PSs X s (t x)) : PSs X s (fun D σ H => ∃ x, t x D σ H) := ⟨fun pins s σ H D I ⟨x, z⟩ => (h x).run pins s σ H D I z⟩
def wipeG (Γ : List Sl) : List Nat → List Sl
  | [] => Γ
  | i :: is => (wipeG Γ is).set i .un
theorem Sta.wipe {K : PySem.W.Frag} {G : Gh} {H : Hp} {σ : St} {Γ : List Sl} (s : Sta K G H σ Γ) : ∀ is : List Nat, Sta K G H σ (wipeG Γ is)
  | [] => s
  | i :: is => (Sta.wipe s is).forget i
theorem pg_imp {X : Cx} {tg : Expr} {t t' : TG} (h : PG X tg t) (k : ∀ v σ H Q, t' v σ H Q → t v σ H Q) : PG X tg t' := ⟨fun pins s σ H v u Q I r z => h.run pins s σ H v u Q I r (k v σ H Q z)⟩
structure ItD (K : PySem.W.Frag) (G : Gh) (H : Hp) (J : It) (ds : List PyData) (fr : Bool) : Prop where
  go : ∀ i G2 H2, i < ds.length → Le G H G2 H2 → J.go i H2
  yl : ∀ i G2 H2 σ Γ v H3, i < ds.length → Le G H G2 H2 → Sta K G2 H2 σ Γ → J.yld i H2 v H3 → ∃ G3 d, ds[i]? = some d ∧ Ext G2 H2 G3 H3 ∧ Sta K G3 H3 σ Γ ∧ Dn K (rg G3 fr) H3 v d
  st : ∀ G2 H2, Le G H G2 H2 → J.stop ds.length H2
theorem pi_imp {X : Cx} {tg it : Expr} {t t' : TI} (h : PI X tg it t) (k : ∀ σ H Q, t' σ H Q → t σ H Q) : PI X tg it t' := ⟨fun pins s σ H Q I z => h.run pins s σ H Q I (k σ H Q z)⟩
theorem Cf0.pg {X : Cx} {W : WX} {sc : Scope} {N : List Str} (C : Cf0 X W sc N) {i : Nat} {x : Str} {p : Pos} (hN : N[i]? = some x) (hv : Sto X sc x) : PG X (.Name x p) (gName i) :=
  pg_name (by rw [C.hN]; exact C.nd) (by rw [C.hN]; exact hN) (by rw [C.hsc]; exact hv.1) (by rw [C.hsc]; exact hv.2)
end PD
set_option Elab.async false
set_option linter.all false
set_option maxRecDepth 100000
set_option maxHeartbeats 4000000
set_option autoImplicit false
namespace PD
open PySem L2
section
variable {X : Cx} {W : WX} {sc : Scope} {N : List Str} {e : Expr} {ss rest : List Stmt} {s : Stmt} {pos : Pos} {f g : DS}
def nL (n : DN) : DC := fun Γ => (n Γ).bind fun z => .val (.lst z.1, z.2)
theorem cc_l {n : DN} (h : CN X W e n) : CC X W e (nL n) := fun Γ => pe_imp (h Γ) fun σ H Q ⟨G, S, p⟩ => ⟨G, S, (Pst.bind p).imp fun z G1 H1 e1 p1 q vs S1 hq hd => p1 G1 H1 (Ext.rf S1.w) _ _ S1 (newc_lst hq hd)⟩
def bNil : DS := fun Γ => .val (.nx, Γ)
def bSeq (f g : DS) : DS := fun Γ => (f Γ).bind fun z => match z.1 with
  | .nx => g z.2
  | w => .val (w, z.2)
theorem cs_nil : CS X W [] bNil := fun Γ => pss_imp pss_nil fun D σ H ⟨G, S, p⟩ => p G H (Ext.rf S.w) σ S
theorem cs_cons (hs : C1 X W s f) (hr : CS X W rest g) : CS X W (s :: rest) (bSeq f g) := fun Γ =>
  pss_imp (pss_cons (hs Γ) (pss_any fun Γ1 => hr Γ1)) fun D σ H ⟨G, S, p⟩ => ⟨G, S, (Pst.bind p).imp fun z G1 H1 e1 p1 => by
    obtain ⟨w, Γ1⟩ := z
    cases w with
    | nx => exact fun σ1 S1 => ⟨Γ1, G1, S1, p1⟩
    | bk => exact p1 G1 H1 (Ext.rf e1.w)
    | ct => exact p1 G1 H1 (Ext.rf e1.w)
    | rt r =>
      have q : FinU X.K G1 H1 D Γ1 (.rt r) := p1 G1 H1 (Ext.rf e1.w)
      cases r with
      | d x => exact q
      | c x => exact q⟩
def bFrz (i : Nat) (g : DS) : DS := fun Γ => match Γ[i]? with
  | some (.own c) => (R.ofO (frzC c)).bind fun d => g (Γ.set i (.dat true d))
  | _ => g Γ
theorem cs_frz (i : Nat) (h : CS X W ss g) : CS X W ss (bFrz i g) := fun Γ => by
  unfold bFrz
  split
  · rename_i c hc
    cases hd : frzC c with
    | none => exact pss_imp (h Γ) fun D σ H ⟨G, S, p⟩ => p.elim
    | some d =>
      exact pss_imp (h _) fun D σ H ⟨G, S, p⟩ => by
        obtain ⟨G2, S2, e2⟩ := S.freezeC i hc hd
        exact ⟨G2, S2, Pst.ext p e2⟩
  · exact h Γ
def asSl : AV → Option Sl
  | .d fr d => some (.dat fr d)
  | _ => none
def bSet (i : Nat) (e : DF) : DS := fun Γ => (e Γ).bind fun z => (R.ofO (asSl z.1)).bind fun s => .val (.nx, z.2.set i s)
theorem c1_set (C : Cf0 X W sc N) (i : Nat) {x : Str} {p' : Pos} {f : DF} (hN : N[i]? = some x) (hv : Sto X sc x) (he : CE X W e f) (hs : swapsWith e (some (.Name x p')) pos.line X.env = pure false := by rfl) : C1 X W (.Assign [.Name x p'] e pos) (bSet i f) := fun Γ => by
  have hx : Loc X.env.scope x := by rw [C.hsc]; exact hv.1
  refine ps_imp (ps_set (i := i) (by rw [C.hN]; exact C.nd) (by rw [C.hN]; exact hN) hx (he Γ) hs (by rw [C.hsc]; exact hv.2)) fun D σ H ⟨G, S, p⟩ => ⟨G, S, (Pst.bind p).imp fun z G1 H1 e1 p1 v S1 a1 => ?_⟩
  obtain ⟨y, Γ1⟩ := z
  cases y with
  | d fr d => exact p1 G1 H1 (Ext.rf S1.w) _ (S1.put i a1)
  | s j => exact p1.elim
def bSetC (i : Nat) (n : DC) : DS := fun Γ => (n Γ).bind fun z => .val (.nx, z.2.set i (.own z.1))
def bExpr (e : DF) : DS := fun Γ => (e Γ).bind fun z => .val (.nx, z.2)
theorem c1_expr {f : DF} (he : CE X W e f) (hs : swapsWith e none pos.line X.env = pure false := by rfl) : C1 X W (.Expr e pos) (bExpr f) := fun Γ =>
  ps_imp (ps_expr (he Γ) hs) fun D σ H ⟨G, S, p⟩ => ⟨G, S, (Pst.bind p).imp fun z G1 H1 e1 p1 v S1 a1 => p1 G1 H1 (Ext.rf S1.w) σ S1⟩
def bRet (e : DF) : DS := fun Γ => (e Γ).bind fun z => (frzA z).bind fun y => match y.1 with
  | .d true d => .val (.rt (.d d), y.2)
  | _ => .bad
theorem frzP {ρ : Type} {G : Gh} {H : Hp} {σ : St} {x : AV} {Γ : List Sl} {v : V} {k : AV × List Sl → R ρ} {P : ρ → Gh → Hp → Prop} (S : Sta X.K G H σ Γ) (hv : AVok X.K G H σ v x) (p : Pst X W G H σ ((frzA (x, Γ)).bind k) P) : ∃ y G', Sta X.K G' H σ y.2 ∧ Ext G H G' H ∧ AVok X.K G' H σ v y.1 ∧ Pst X W G' H σ (k y) P := by
  unfold frzA at p
  split at p
  · rename_i hz; cases hz; exact ⟨_, G, S, Ext.rf S.w, hv, p⟩
  · rename_i d Γ2 hz
    cases hz
    refine ⟨_, G, S, Ext.rf S.w, ?_, p⟩
    cases hf : flat d with
    | false => exact hv
    | true => exact Dn.free hv hf
  · rename_i i Γ2 hz
    cases hz
    split at p
    · rename_i ds hi
      obtain ⟨G2, S2, e2⟩ := S.freeze i hi
      have h2 : (Γ.set i (.dat true (.list ds)))[i]? = some (.dat true (.list ds)) := set_at (List.getElem?_eq_some_iff.mp hi).1
      obtain ⟨A2, T2⟩ := id S2
      obtain ⟨_, w, g1, g2⟩ := T2.sl i _ h2
      have hv : σ[i]? = some (some v) := hv
      rw [hv] at g1
      cases g1
      exact ⟨(.d true (.list ds), Γ.set i (.dat true (.list ds))), G2, S2, e2, g2, Pst.ext p e2⟩
    · exact p.elim
theorem c1_ret {f : DF} (he : CE X W e f) : C1 X W (.Return (some e) pos) (bRet f) := fun Γ =>
  ps_imp (ps_ret (he Γ)) fun D σ H ⟨G, S, p⟩ => ⟨G, S, (Pst.bind p).imp fun z G1 H1 e1 p1 v S1 a1 => by
    obtain ⟨x, Γ1⟩ := z
    obtain ⟨y, G2, S2, e2, a2, p2⟩ := frzP S1 a1 p1
    obtain ⟨y, Γ2⟩ := y
    simp only at p2
    split at p2
    · exact p2 G2 H1 (Ext.rf S2.w) σ v S2 a2
    · exact p2.elim⟩
def bRet0 : DS := fun Γ => .val (.rt (.d .none), Γ)
def bRetC (n : DC) : DS := fun Γ => (n Γ).bind fun z => .val (.rt (.c z.1), z.2)
theorem c1_retC {n : DC} (he : CC X W e n) : C1 X W (.Return (some e) pos) (bRetC n) := fun Γ =>
  ps_imp (ps_ret (he Γ)) fun D σ H ⟨G, S, p⟩ => ⟨G, S, (Pst.bind p).imp fun z G1 H1 e1 p1 v H2 S1 hn => p1 G1 H1 (Ext.rf S1.w) σ v H2 S1 hn⟩
def bRetO (i : Nat) : DS := fun Γ => match Γ[i]? with
  | some (.own c) => .val (.rt (.c c), Γ.set i .un)
  | _ => .bad
theorem c1_retO (C : Cf0 X W sc N) (i : Nat) {x : Str} {p' : Pos} (hN : N[i]? = some x) (hv : visB sc x = true) (hd : (x == ("__debug__" : Str)) = false := by decide +kernel) (hcd : (x == ("__classdict__" : Str)) = false := by decide +kernel) : C1 X W (.Return (some (.Name x p')) pos) (bRetO i) := fun Γ => by
  unfold bRetO
  split
  · rename_i c hc
    refine ps_imp (ps_ret (evp_slot (Γ := Γ) (W := W) C (.inl hc) hN hv hd hcd)) fun D σ H ⟨G, S, p⟩ => ⟨G, S, fun G1 H1 e1 v S1 a1 => ?_⟩
    obtain ⟨w, H2, h1, S2, e2, n2⟩ := S1.releaseC i hc
    have a1 : σ[i]? = some (some v) := a1
    rw [h1] at a1
    cases a1
    exact p G1 H2 (e1.tr e2) σ v H1 S2 n2
  · exact ⟨fun pins s σ H D I ⟨G, S, p⟩ => p.elim⟩
def bIf (c : DT) (f g : DS) : DS := fun Γ => (c Γ).bind fun x => if x.1 then f x.2 else g x.2
theorem c1_if {c : Expr} {a b : List Stmt} {t : DT} (hc : CT X W c t) (ha : CS X W a f) (hb : CS X W b g) : C1 X W (.If c a b pos) (bIf t f g) := fun Γ =>
  ps_imp (ps_if (hc Γ) (pss_any fun Γ1 => ha Γ1) (pss_any fun Γ1 => hb Γ1)) fun D σ H ⟨G, S, p⟩ => ⟨G, S, (Pst.bind p).imp fun z G1 H1 e1 p1 S1 => by
    obtain ⟨z, Γ1⟩ := z
    cases z with
    | true => exact itT ⟨Γ1, G1, S1, p1⟩
    | false => exact itF ⟨Γ1, G1, S1, p1⟩⟩
abbrev DG := Bool → PyData → List Sl → Option (List Sl)
def CG (X : Cx) (tg : Expr) (ts : List Nat) (g : DG) : Prop :=
  PG X tg (fun v σ H Q => ∃ G Γ fr d Γ', Sta X.K G H σ Γ ∧ Dn X.K (rg G fr) H v d ∧ g fr d Γ = some Γ' ∧ ∀ σ', σ'.length = σ.length → (∀ j, j ∉ ts → σ'[j]? = σ[j]?) → Sta X.K G H σ' Γ' → Q σ' H)
def gN (i : Nat) : DG := fun fr d Γ => some (Γ.set i (.dat fr d))
theorem cg_name (C : Cf0 X W sc N) (i : Nat) {x : Str} {p : Pos} (hN : N[i]? = some x) (hv : Sto X sc x) : CG X (.Name x p) [i] (gN i) :=
  pg_imp (C.pg hN hv) fun v σ H Q ⟨G, Γ, fr, d, Γ', S, h, e, k⟩ => by
    cases e
    exact k _ (List.length_set ..) (fun j hj => List.getElem?_set_ne (Ne.symm (by simpa using hj))) (S.put i h)
def gT2 (g1 g2 : DG) : DG := fun fr d Γ => match d with
  | .tuple [a, b] => (g1 fr a Γ).bind fun Γ1 => g2 fr b Γ1
  | _ => none
theorem cg_tup2 (C : Cf X W sc N) {t1 t2 : Expr} {kk : Nat} {p : Pos} {g1 g2 : DG} {ts1 ts2 : List Nat} (h1 : CG X t1 ts1 g1) (h2 : CG X t2 ts2 g2)
    (hn : (assignEach [t1, t2] X.env).length = 2 := by rfl) (hst : (assignEach [t1, t2] X.env).findIdx? (·.1) = none := by rfl) (hs1 : (assignEach [t1, t2] X.env).map (·.2) = assign t1 X.env :: (assignEach [t2] X.env).map (·.2) := by rfl) (hs2 : (assignEach [t2] X.env).map (·.2) = assign t2 X.env :: (assignEach [] X.env).map (·.2) := by rfl) :
    CG X (.Tuple [t1, t2] kk p) (ts1 ++ ts2) (gT2 g1 g2) := by
  refine pg_imp (pg_tup (n := 2) C.calm (pgs_cons h1 (pgs_cons h2 pgs_nil hs2) hs1) hn hst) fun v σ H Q ⟨G, Γ, fr, d, Γ', S, h, e, k⟩ => ?_
  unfold gT2 at e
  split at e
  · rename_i a b
    obtain ⟨q, xs, rfl, hq, hd⟩ := dn_tuple h
    cases hd with
    | cons d1 r1 =>
      cases r1 with
      | cons d2 r2 =>
        cases r2
        cases e1 : g1 fr a Γ with
        | none => rw [e1] at e; cases e
        | some Γ1 =>
          rw [e1] at e
          exact ⟨q, _, rfl, hq, rfl, _, _, rfl, G, Γ, fr, a, Γ1, S, d1, e1, fun σ1 l1 k1 S1 => ⟨_, _, rfl, G, Γ1, fr, b, Γ', S1, d2, e, fun σ2 l2 k2 S2 => ⟨rfl, k _ (l2.trans l1) (fun j hj => (k2 j fun z => hj (by simp [z])).trans (k1 j fun z => hj (by simp [z]))) S2⟩⟩⟩
  · cases e
def bSetG (g : DG) (e : DF) : DS := fun Γ => (e Γ).bind fun z => match z.1 with
  | .d fr d => (R.ofO (g fr d z.2)).bind fun Γ1 => .val (.nx, Γ1)
  | _ => .bad
end
end PD
set_option Elab.async false
set_option linter.all false
set_option maxRecDepth 100000
set_option maxHeartbeats 4000000
set_option autoImplicit false
namespace PD
open PySem L2
theorem itd_list {K : PySem.W.Frag} {G : Gh} {H : Hp} {a : Addr} {xs : List V} {ds : List PyData} {fr : Bool} (h : LsR K (rg G fr) a xs) (hd : DnA K (rg G fr) H xs ds) : ItD K G H (Itl K a) ds fr := by
  have sq : ∀ G2 H2, Le G H G2 H2 → SqL K H2 a xs := fun G2 H2 e => ((h.mono (e.rgl fr)).mono (e.w.rgl fr)).sq
  have hl := hd.length
  refine ⟨fun i G2 H2 hi e => ⟨xs, xs[i], sq G2 H2 e, by simp⟩, fun i G2 H2 σ Γ v H3 hi e S y => ?_, fun G2 H2 e => ⟨xs, sq G2 H2 e, Nat.le_of_eq hl⟩⟩
  obtain ⟨rfl, hy⟩ := y
  obtain ⟨d, h1, h2⟩ := (e.dna hd).get (hy xs (sq G2 _ e))
  exact ⟨G2, d, h1, Ext.rf S.w, S, h2⟩
theorem itd_tup {K : PySem.W.Frag} {G : Gh} {H : Hp} {a : Addr} {xs : List V} {ds : List PyData} {fr : Bool} (h : H a = some (.tup xs)) (hd : DnA K (rg G fr) H xs ds) : ItD K G H (Itt K a) ds fr := by
  have sq : ∀ G2 H2, Le G H G2 H2 → SqT K H2 a xs := fun G2 H2 e => SqT.of (e.t _ _ h)
  have hl := hd.length
  refine ⟨fun i G2 H2 hi e => ⟨xs, xs[i], sq G2 H2 e, by simp⟩, fun i G2 H2 σ Γ v H3 hi e S y => ?_, fun G2 H2 e => ⟨xs, sq G2 H2 e, Nat.le_of_eq hl⟩⟩
  obtain ⟨rfl, hy⟩ := y
  obtain ⟨d, h1, h2⟩ := (e.dna hd).get (hy xs (sq G2 _ e))
  exact ⟨G2, d, h1, Ext.rf S.w, S, h2⟩
theorem itd_range {K : PySem.W.Frag} {G : Gh} {H : Hp} {lo : Int} {n : Nat} {ds : List PyData} (hd : ds = (List.range n).map fun i => PyData.int (lo + (i : Nat))) : ItD K G H (Itr lo n) ds true := by
  subst hd
  refine ⟨fun i G2 H2 hi e => by simpa [Itr] using hi, fun i G2 H2 σ Γ v H3 hi e S y => ?_, fun G2 H2 e => by simp [Itr]⟩
  obtain ⟨rfl, rfl⟩ := y
  have hi : i < n := by simpa using hi
  exact ⟨G2, .int (lo + (i : Nat)), by simp [hi], Ext.rf S.w, S, .int _⟩
def rng (lo hi : Int) : List Int := (List.range (hi - lo).toNat).map fun i => lo + (i : Nat)
def cRng (lo hi : Int) : Bool := decide (-(2 ^ 62) ≤ lo ∧ lo < 2 ^ 62 ∧ -(2 ^ 62) ≤ hi ∧ hi < 2 ^ 62)
theorem rng_ds (lo hi : Int) : (rng lo hi).map PyData.int = (List.range (hi - lo).toNat).map fun i => PyData.int (lo + (i : Nat)) := by
  unfold rng
  rw [List.map_map]
  rfl
theorem sta_pair {K : PySem.W.Frag} {G : Gh} {H : Hp} {σ : St} {Γ : List Sl} {T : Addr} {x y : V} {d1 d2 : PyData} {fr : Bool} (S : Sta K G H σ Γ) (hT : H T = none) (h1 : Dn K (rg G fr) H x d1) (h2 : Dn K (rg G fr) H y d2) :
    ∃ G3, Ext G H G3 (upd H T (.tup [x, y])) ∧ Sta K G3 (upd H T (.tup [x, y])) σ Γ ∧ Dn K (rg G3 fr) (upd H T (.tup [x, y])) (.ref T) (.tuple [d1, d2]) := by
  obtain ⟨G3, S3, e3, h3⟩ := S.newTup (ds := [d1, d2]) hT (.cons h1 (.cons h2 .nil))
  exact ⟨G3, e3, S3, h3⟩
def enumD (ds : List PyData) : List PyData := ds.mapIdx fun i d => .tuple [.int (i : Nat), d]
theorem itd_enum {K : PySem.W.Frag} {G : Gh} {H : Hp} {a : Addr} {xs : List V} {ds : List PyData} {fr : Bool} (h : LsR K (rg G fr) a xs) (hd : DnA K (rg G fr) H xs ds) : ItD K G H (Ite K a) (enumD ds) fr := by
  have sq : ∀ G2 H2, Le G H G2 H2 → SqL K H2 a xs := fun G2 H2 e => ((h.mono (e.rgl fr)).mono (e.w.rgl fr)).sq
  have hl := hd.length
  have hl2 : (enumD ds).length = xs.length := by unfold enumD; simp [hl]
  refine ⟨fun i G2 H2 hi e => ⟨xs, xs[i]'(by rw [hl2] at hi; exact hi), sq G2 H2 e, by simp⟩, fun i G2 H2 σ Γ v H3 hi e S y => ?_, fun G2 H2 e => ⟨xs, sq G2 H2 e, by rw [hl2]; exact Nat.le_refl _⟩⟩
  obtain ⟨T, x, rfl, hT, rfl, hy⟩ := y
  obtain ⟨d, h1, h2⟩ := (e.dna hd).get (hy xs (sq G2 _ e))
  obtain ⟨G3, e3, S3, h3⟩ := sta_pair S hT (.int (i : Nat)) h2
  refine ⟨G3, _, ?_, e3, S3, h3⟩
  unfold enumD
  rw [List.getElem?_mapIdx, h1]
  rfl
def zipD (ds es : List PyData) : List PyData := List.zipWith (fun d e => .tuple [d, e]) ds es
abbrev DI := List Sl → R ((List PyData × Bool) × List Sl)
def rdIU (X : Cx) (W : WX) (Γ : List Sl) (m : R ((List PyData × Bool) × List Sl)) : TI := fun σ H Q => ∃ G, Sta X.K G H σ Γ ∧ Pst X W G H σ m fun r G' H' => ∀ J, Sta X.K G' H' σ r.2 → ItD X.K G' H' J r.1.1 r.1.2 → Q J H'
def CI (X : Cx) (W : WX) (tg iter : Expr) (f : DI) : Prop := ∀ Γ, PI X tg iter (rdIU X W Γ (f Γ))
section
variable {X : Cx} {W : WX} {sc : Scope} {N : List Str} {e e2 tg iter : Expr} {pos p : Pos} {f g : DF} {k : DA}
theorem pi_no {t : TI} (h : ∀ σ H Q, ¬ t σ H Q) : PI X tg iter t := ⟨fun pins s σ H R I z => (h _ _ _ z).elim⟩
def seqA : AV → Option (List PyData × Bool)
  | .d fr (.list ds) => some (ds, fr)
  | .d fr (.tuple ds) => some (ds, fr)
  | _ => none
def iSeq (f : DF) : DI := fun Γ => (f Γ).bind fun z => (R.ofO (seqA z.1)).bind fun y => .val (y, z.2)
theorem ci_seq (h : CE X W e f) : CI X W tg e (iSeq f) := fun Γ => by
  have h := h Γ
  unfold iSeq
  cases hf : f Γ with
  | bad => exact pi_no fun σ H Q ⟨G, S, q⟩ => q
  | exc x =>
    rw [hf] at h
    exact pi_imp (pi_list h) fun σ H Q ⟨G, S, q⟩ => ⟨G, S, q⟩
  | val z =>
    rw [hf] at h
    obtain ⟨y, Γ1⟩ := z
    cases hy : seqA y with
    | none =>
      refine pi_no fun σ H Q ⟨G, S, q⟩ => ?_
      · have q : Pst X W G H σ ((R.ofO (seqA y)).bind fun y => R.val (y, Γ1)) (fun r G' H' => ∀ J, Sta X.K G' H' σ r.2 → ItD X.K G' H' J r.1.1 r.1.2 → Q J H') := q
        rw [hy] at q
        exact q
    | some w =>
      have key : ∀ {σ H Q}, rdIU X W Γ ((R.val (y, Γ1)).bind fun z => (R.ofO (seqA z.1)).bind fun y => .val (y, z.2)) σ H Q → ∃ G, Sta X.K G H σ Γ ∧ ∀ G' H', Ext G H G' H' → ∀ J, Sta X.K G' H' σ Γ1 → ItD X.K G' H' J w.1 w.2 → Q J H' := fun {σ H Q} ⟨G, S, q⟩ => by
        have q : Pst X W G H σ ((R.ofO (seqA y)).bind fun y => R.val (y, Γ1)) (fun r G' H' => ∀ J, Sta X.K G' H' σ r.2 → ItD X.K G' H' J r.1.1 r.1.2 → Q J H') := q
        rw [hy] at q
        exact ⟨G, S, q⟩
      unfold seqA at hy
      split at hy
      · cases hy
        refine pi_imp (pi_list h) fun σ H Q z => ?_
        obtain ⟨G, S, q⟩ := key z
        refine ⟨G, S, fun G' H' e' v S' a => ?_⟩
        obtain ⟨l, xs, rfl, h1, h2⟩ := dn_list a
        exact ⟨l, rfl, ⟨xs, (h1.mono (S'.w.rgl _)).sq⟩, q G' H' e' _ S' (itd_list h1 h2)⟩
      · cases hy
        refine pi_imp (pi_tup h) fun σ H Q z => ?_
        obtain ⟨G, S, q⟩ := key z
        refine ⟨G, S, fun G' H' e' v S' a => ?_⟩
        obtain ⟨l, xs, rfl, h1, h2⟩ := dn_tupleH a
        exact ⟨l, rfl, ⟨xs, SqT.of h1⟩, q G' H' e' _ S' (itd_tup h1 h2)⟩
      · cases hy
theorem avs_one {K : PySem.W.Frag} {G : Gh} {H : Hp} {σ : St} {vs : List V} {a : AV} (h : AVs K G H σ vs [a]) : ∃ v, vs = [v] ∧ AVok K G H σ v a := by
  cases h with
  | cons h r => cases r; exact ⟨_, rfl, h⟩
theorem avs_two {K : PySem.W.Frag} {G : Gh} {H : Hp} {σ : St} {vs : List V} {a b : AV} (h : AVs K G H σ vs [a, b]) : ∃ v u, vs = [v, u] ∧ AVok K G H σ v a ∧ AVok K G H σ u b := by
  cases h with
  | cons h r =>
    obtain ⟨u, rfl, h2⟩ := avs_one r
    exact ⟨_, u, rfl, h, h2⟩
def intA : AV → Option Int
  | .d _ (.int i) => some i
  | _ => none
theorem intA_ok {K : PySem.W.Frag} {G : Gh} {H : Hp} {σ : St} {v : V} {a : AV} {i : Int} (h : intA a = some i) (hv : AVok K G H σ v a) : v = .int i := by
  unfold intA at h
  split at h
  · cases h; exact dn_int hv
  · cases h
theorem Pst.ofO {G : Gh} {H : Hp} {σ : St} {α τ : Type} {o : Option α} {k : α → R τ} {P : τ → Gh → Hp → Prop} (h : Pst X W G H σ ((R.ofO o).bind k) P) : ∃ x, o = some x ∧ Pst X W G H σ (k x) P := by
  cases o with
  | none => exact h.elim
  | some x => exact ⟨x, rfl, h⟩
theorem Pst.req {G : Gh} {H : Hp} {σ : St} {τ : Type} {c : Bool} {m : R τ} {P : τ → Gh → Hp → Prop} (h : Pst X W G H σ ((R.req c).bind fun _ => m) P) : c = true ∧ Pst X W G H σ m P := by
  cases c with
  | false => exact h.elim
  | true => exact ⟨rfl, h⟩
theorem Pst.gq {G : Gh} {H : Hp} {σ : St} {τ : Type} {c : Bool} {a : τ} {P : τ → Gh → Hp → Prop} (w : Wf G H) (h : Pst X W G H σ (gq c a) P) : c = true ∧ P a G H := by
  obtain ⟨h1, h2⟩ := Pst.req h
  exact ⟨h1, h2 G H (Ext.rf w)⟩
def iRange1 (f : DF) : DI := fun Γ => (f Γ).bind fun z => (R.ofO (intA z.1)).bind fun j => gq (cRng 0 j) (((rng 0 j).map PyData.int, true), z.2)
theorem ci_range1 (C : Cf0 X W sc N) (hg : glB sc "range" = true) (hm : X.mg "range" = none) (ha : CE X W e f) (hst : starEach [e] X.env = [(false, eval e X.env)] := by rfl) : CI X W tg (.Call (.Name "range" p) [e] [] pos) (iRange1 f) := fun Γ =>
  pi_imp (pi_range1 (C.gl hg) hm (pa_cons (ha Γ) pa_nil (by rw [hst]; rfl)) hst) fun σ H Q ⟨G, S, q⟩ => ⟨G, S, (Pst.bind q).imp fun z G1 H1 e1 p1 v S1 av => by
    obtain ⟨j, hj, p1⟩ := Pst.ofO p1
    obtain ⟨c, p1⟩ := Pst.gq S1.w p1
    have c := of_decide_eq_true c
    exact ⟨j, by rw [intA_ok hj av], c.2.2.1, c.2.2.2, p1 _ S1 (by rw [show j.toNat = (j - 0).toNat by simp]; exact itd_range (rng_ds 0 j))⟩⟩
def iRange2 (f g : DF) : DI := fun Γ => (f Γ).bind fun z => (g z.2).bind fun y => (R.ofO (intA z.1)).bind fun i => (R.ofO (intA y.1)).bind fun j => gq (cRng i j) (((rng i j).map PyData.int, true), y.2)
theorem ci_range2 (C : Cf0 X W sc N) (hg : glB sc "range" = true) (hm : X.mg "range" = none) (ha : CE X W e f) (hb : CE X W e2 g) (hst : starEach [e, e2] X.env = [(false, eval e X.env), (false, eval e2 X.env)] := by rfl) (hst2 : starEach [e2] X.env = [(false, eval e2 X.env)] := by rfl) : CI X W tg (.Call (.Name "range" p) [e, e2] [] pos) (iRange2 f g) := fun Γ =>
  pi_imp (pi_range2 (C.gl hg) hm (pa_cons (ha Γ) (pa_cons (pe_any fun z : AV × List Sl => hb z.2) pa_nil (by rw [hst2]; rfl)) (by rw [hst, hst2])) hst hst2) fun σ H Q ⟨G, S, q⟩ => ⟨G, S, (Pst.bind q).imp fun z G1 H1 e1 p1 v S1 av => ⟨z, G1, S1, (Pst.bind p1).imp fun y G2 H2 e2 p2 u S2 au => by
    obtain ⟨i, hi, p2⟩ := Pst.ofO p2
    obtain ⟨j, hj, p2⟩ := Pst.ofO p2
    obtain ⟨c, p2⟩ := Pst.gq S2.w p2
    have c := of_decide_eq_true c
    exact ⟨i, j, by rw [intA_ok hi (av.ext e2), intA_ok hj au], c, p2 _ S2 (itd_range (rng_ds i j))⟩⟩⟩
end
end PD
set_option Elab.async false
set_option linter.all false
set_option maxRecDepth 100000
set_option maxHeartbeats 4000000
set_option autoImplicit false
namespace PD
open PySem L2
open Sem (wp)
theorem enumT_new {v : Value} {ob : Obj} {Z : Heap → Prop} (B : Begins v ob Z) :
    Meets (Builtin.«enumerate.__new__» ⟨[.type "enumerate", v], []⟩) (fun _ R s => Z s.heap ∧ R (.ok (.ret (.ref (s.heap.push ob).objs.size)))
      { s with heap := (s.heap.push ob).push { cls := .type "enumerate", data := .fields #[.none, .bool false, .ref s.heap.objs.size, rawInt 0, .none, .none] } }) :=
  .of_wp fun prog w A R s h => by
    obtain ⟨hp, g, d, tk, os⟩ := s
    obtain ⟨z1, z2⟩ := h
    have z3 := sub_enumerate
    have z4 : ∀ {A' : Around} {E : Value → Shared → Prop} {Q : Value → Shared → Prop}, Q (.ref hp.objs.size) ⟨hp.push ob, g, d, tk, os⟩ → wpAny (model prog w) A' (pyIter v) Q E ⟨hp, g, d, tk, os⟩ :=
      fun q => B.iter prog w _ _ ⟨hp, g, d, tk, os⟩ _ z1 q
    wp_walk using z4
    refine wpAny_stack_any fun z5 => wpAny_pure ?_
    split
    · rename_i y _ _ _ _ _
      cases (y == Value.type "enumerate") <;> (wp_walk using z4) <;> exact ⟨_, rfl, z2⟩
    · wp_walk using z4
      exact ⟨_, rfl, z2⟩
theorem enumT_call {prog : Program} {w : World} {A : Around} {E : Value → Shared → Prop} {s : Shared} {v : Value} {ob : Obj} {Z : Heap → Prop} {Q : Value → Shared → Prop} (B : Begins v ob Z) (h1 : Z s.heap)
    (h : ∀ h', IsEnum h' (s.heap.objs.size + 1) s.heap.objs.size 0 .none → h'.get? s.heap.objs.size = some ob → h'.objs.size = s.heap.objs.size + 2 →
      (∀ b o, s.heap.get? b = some o → h'.get? b = some o) → Q (.ref (s.heap.objs.size + 1)) { s with heap := h' }) :
    wpAny (model prog w) A (call (.type "enumerate") [v]) Q E s := by
  refine callType_new F.called_enumerate (by decide) (F.typeCall_enumerate_1 _) (F.newCall_enumerate_1 _) (fun z => F.args_object_init_2 z _) F.entry_enumerate_new (enumT_new B) ⟨h1, ?_⟩
  have hz : (s.heap.push ob).objs.size = s.heap.objs.size + 1 := Heap.size_push ..
  show _ ∧ _
  rw [hz]
  have he : IsEnum ((s.heap.push ob).push { cls := .type "enumerate", data := .fields #[.none, .bool false, .ref s.heap.objs.size, rawInt 0, .none, .none] }) (s.heap.objs.size + 1) s.heap.objs.size 0 .none := by
    have q := Heap.get?_push_size (s.heap.push ob) (o := { cls := .type "enumerate", data := .fields #[.none, .bool false, .ref s.heap.objs.size, rawInt 0, .none, .none] }) rfl
    rw [hz] at q
    exact q
  exact ⟨⟨_, he, rfl⟩, h _ he (Heap.get?_push_of_some _ (Heap.get?_push_size _ B.free)) (by rw [Heap.size_push, hz]) fun b o x => Heap.get?_push_of_some _ (Heap.get?_push_of_some _ x)⟩
def IteT (K : PySem.W.Frag) (a : Addr) : It :=
  ⟨fun i H => ∃ (xs : List V) (x : V), SqT K H a xs ∧ xs[i]? = some x, fun i H v H' => ∃ T x, v = .ref T ∧ H T = none ∧ H' = upd H T (.tup [.int (i : Nat), x]) ∧ ∀ xs, SqT K H a xs → xs[i]? = some x, fun i H => ∃ xs : List V, SqT K H a xs ∧ xs.length ≤ i⟩
theorem turn_enumT {P : Program} {w : World} {K : PySem.W.Frag} {elts : List Expr} {kk : Nat} {tpos : Pos} (a e it : Addr) :
    Turn P w K (.Tuple elts kk tpos) (IteT K a) [e, it] e (fun i h => (∃ old, IsEnum h e it ((i : Nat) : Int) old) ∧ h.IsTupleIter it a i ∧ e ≠ it) where
  mem := by simp
  obj := fun i h st b hb => by
    obtain ⟨⟨old, he⟩, ⟨o, ho, hc, hd⟩, _⟩ := st
    rcases (show b = e ∨ b = it by simpa using hb) with z | z <;> rw [z]
    · exact ⟨_, he, fun v q => nomatch q⟩
    · exact ⟨o, ho, fun v q => by rw [hd] at q; cases q⟩
  keep := fun i h h' st k => ⟨⟨st.1.choose, k e (by simp) _ st.1.choose_spec⟩, st.2.1.at fun o q => k it (by simp) o q, st.2.2⟩
  item := by
    intro X hP hw hK hc i pins s σ H E I hf st hg
    subst hP hw hK
    obtain ⟨⟨old, he⟩, hit, hne⟩ := st
    obtain ⟨xs, x, hq, hx⟩ := hg
    obtain ⟨its, rv, pt, hz⟩ := I.tuple hq
    have pt : s.heap.IsTuple a its.toArray := pt
    obtain ⟨u, hu, ru⟩ := rv.get hx
    have hel : e < s.heap.objs.size := Heap.lt_size he
    have hil : it < s.heap.objs.size := hit.elim fun o q => Heap.lt_size q.1
    have ha1 : a ≠ it := by
      rintro rfl
      obtain ⟨o1, q1, q2, _⟩ := hit
      obtain ⟨o2, q3, q4, _⟩ := pt
      rw [q1] at q3; cases q3
      rw [q2] at q4; exact absurd (Value.type.inj q4) (by decide)
    have ha2 : e ∉ [it, a] := by
      intro z
      rcases (show e = it ∨ e = a by simpa using z) with z | z
      · exact hne z
      · obtain ⟨o2, q3, q4, _⟩ := pt
        rw [← z, he] at q3; cases q3
        exact absurd (Value.type.inj q4) (by decide)
    have D := Draws.tuple (prog := X.prog) (w := X.w) (A := X.A.in1) (I.ok.hd hc) it a ha1 its.toArray
    refine wpAny_pyNext_enum_itemD D he ⟨hit, pt⟩ (i := i) ?_ hne ha2 fun y h' tk hy ho hit' hT hsz hk => ?_
    · have := List.getElem?_eq_some_iff.mp hu
      simpa using this.1
    obtain rfl : y = u := by
      have : its[i]? = some y := by simpa using hy
      rw [hu] at this; cases this; rfl
    refine ⟨_, rfl, wpAny_letOwnedTupleGo_enum (s := { s with heap := h', toks := tk + 1 }) ho fun h'' he' sb => ?_⟩
    have hT2 : h''.get? s.heap.objs.size = some { cls := .type "tuple", data := .seq #[.int i tk, y] } := (sb.2 _ (Nat.ne_of_gt hel)).trans hT
    have new : ObjOk X.prog X.w (upd H s.heap.objs.size (.tup [.int (i : Nat), x])) h'' s.heap.objs.size (.tup [.int (i : Nat), x]) :=
      ⟨by show 2 ≤ sizeLine; decide, [.int i tk, y], .cons ⟨_, rfl⟩ (.cons ru .nil), ⟨_, hT2, rfl, _, rfl⟩⟩
    have I1 : Inv X pins σ (upd H s.heap.objs.size (.tup [.int (i : Nat), x])) { s with heap := h'', toks := tk + 1 } :=
      I.turnedNew (ch := [e, it]) (fun b ob hb q => (sb.2 b (fun z => hb (by simp [z]))).trans (hk b ob (fun z => hb (by simp [z])) (fun z => hb (by simp [z])) q)) hf (Nat.le_refl _) new
    refine ⟨.ref s.heap.objs.size, _, I1, rfl, ⟨_, x, rfl, I.hok.fresh (Nat.le_refl _), rfl, fun ys hy => by rw [I.tuple_inj hy hq]; exact hx⟩, ⟨⟨y, ?_⟩, hit'.1.at fun o q => (sb.2 it (Ne.symm hne)).trans q, hne⟩, fun b hb => ?_⟩
    · rw [show ((i + 1 : Nat) : Int) = (i : Int) + 1 by omega]
      exact he'
    · have hb' : b < s.heap.objs.size := by
        rcases (show b = e ∨ b = it by simpa using hb) with z | z <;> rw [z] <;> assumption
      rw [upd_ne (Nat.ne_of_lt hb')]
      exact (hf b hb).1
  done := by
    intro X hP hw hK hc i pins s σ H E I hf st hg
    subst hP hw hK
    obtain ⟨⟨old, he⟩, hit, hne⟩ := st
    obtain ⟨xs, hq, hx⟩ := hg
    obtain ⟨its, rv, pt, hz⟩ := I.tuple hq
    have pt : s.heap.IsTuple a its.toArray := pt
    obtain ⟨f0, f1, f2, f3, f4, f5⟩ := hf it (by simp)
    have hl := rv.length
    have hT : s.TypeIs (.ref e) "enumerate" := ⟨_, he, rfl⟩
    unfold pyNext
    refine wpAny_bind (wpAny_attempt (wpAny_callSpecial?_slot (name := Str.ofString "__next__") hT F.slot_enumerate_next (wpAny_call_entry F.slot_enumerate_next hT F.entry_enumerate_next ?_ (F.args_enumerate_next_1 _))))
    show wpAny _ _ (PySem.field (.ref e) 2 >>= _) _ _ _
    refine wpAny_bind (wpAny_field he rfl (x := .ref it) rfl ?_)
    refine wpAny_bind (wpAny_nextOf_tuple_end (I.ok.hd hc) hit pt (by simp; omega) fun h' x eb hx' => ?_)
    obtain ⟨o, ho, hcl⟩ := hx'
    refine wpAny_bind (wpAny_isInstance (T := "StopIteration") (b := true) ⟨o, ho, hcl⟩ isSubtype_stop ?_)
    exact wpAny_pure ⟨rfl, I.turned (t' := s.toks) (fun b o hb q => eb b o hb q) f0 f1 f3 f4 f5⟩
  self := fun A i s Q E st h => let ⟨⟨_, he⟩, _⟩ := st; wpAny_pyIter_enum he h
theorem pi_enumT {X : Cx} {e : Expr} {ta : TA} {p pos tpos : Pos} {elts : List Expr} {kk : Nat} (hg : Gl X "enumerate") (hm : X.mg "enumerate" = none) (ha : PA X [e] ta) (hs : starEach [e] X.env = [(false, eval e X.env)] := by rfl) :
    PI X (.Tuple elts kk tpos) (.Call (.Name "enumerate" p) [e] [] pos) (fun σ H R => ta σ H fun vs H1 => ∃ a xs, vs = [.ref a] ∧ SqT X.K H1 a xs ∧ R (IteT X.K a) H1) := by
  refine ⟨fun pins s σ H R I h => ?_⟩
  refine PyProof.Rows.Call_ (ld_blt I hg hm (show bootBuiltins "enumerate" = some (.type "enumerate") by kernel_rfl) (PyProof.Rows.callWith_type1 (thn (ha.run pos pins s σ H _ I h) fun us s1 ⟨vs, H1, I1, r1, q1⟩ => ?_) hs rfl))
  obtain ⟨a, xs, ex, hq, q⟩ := q1
  subst ex
  cases r1 with
  | cons r rr =>
    cases rr
    cases r
    obtain ⟨its, rv, pt, hz⟩ := I1.tuple hq
    refine enumT_call (begins_tuple a its.toArray) pt fun h' he hit hsz hk => wpAny_pyIter_enum he ?_
    have I2 : Inv X pins σ H1 { s1 with heap := h' } := I1.kept (t' := s1.toks) hk
    refine ⟨s1.heap.objs.size + 1, [s1.heap.objs.size + 1, s1.heap.objs.size], _, _, H1, rfl, I2, turn_enumT a (s1.heap.objs.size + 1) s1.heap.objs.size, ⟨⟨.none, he⟩, ⟨_, hit, rfl, rfl⟩, Nat.succ_ne_self _⟩, fun b hb => ?_, q⟩
    have hle : s1.heap.objs.size ≤ b := by
      rcases (show b = s1.heap.objs.size + 1 ∨ b = s1.heap.objs.size by simpa using hb) with z | z <;> rw [z]
      · exact Nat.le_add_right _ _
      · exact Nat.le_refl _
    exact I1.fpOk hle (I1.hok.fresh hle)
theorem itd_enumT {K : PySem.W.Frag} {G : Gh} {H : Hp} {a : Addr} {xs : List V} {ds : List PyData} {fr : Bool} (h : H a = some (.tup xs)) (hd : DnA K (rg G fr) H xs ds) : ItD K G H (IteT K a) (enumD ds) fr := by
  have sq : ∀ G2 H2, Le G H G2 H2 → SqT K H2 a xs := fun G2 H2 e => SqT.of (e.t _ _ h)
  have hl := hd.length
  have hl2 : (enumD ds).length = xs.length := by unfold enumD; simp [hl]
  refine ⟨fun i G2 H2 hi e => ⟨xs, xs[i]'(by rw [hl2] at hi; exact hi), sq G2 H2 e, by simp⟩, fun i G2 H2 σ Γ v H3 hi e S y => ?_, fun G2 H2 e => ⟨xs, sq G2 H2 e, by rw [hl2]; exact Nat.le_refl _⟩⟩
  obtain ⟨T, x, rfl, hT, rfl, hy⟩ := y
  obtain ⟨d, h1, h2⟩ := (e.dna hd).get (hy xs (sq G2 _ e))
  obtain ⟨G3, e3, S3, h3⟩ := sta_pair S hT (.int (i : Nat)) h2
  refine ⟨G3, _, ?_, e3, S3, h3⟩
  unfold enumD
  rw [List.getElem?_mapIdx, h1]
  rfl
section
variable {X : Cx} {W : WX} {sc : Scope} {N : List Str} {e e2 tg iter : Expr} {pos p : Pos} {f g : DF} {k : DA}
def iEnum (f : DF) : DI := fun Γ => (f Γ).bind fun z => (R.ofO (seqA z.1)).bind fun y => .val ((enumD y.1, y.2), z.2)
theorem ci_enum (C : Cf0 X W sc N) {elts : List Expr} {kk : Nat} {tpos : Pos} (hg : glB sc "enumerate" = true) (hm : X.mg "enumerate" = none) (h : CE X W e f) (hst : starEach [e] X.env = [(false, eval e X.env)] := by rfl) : CI X W (.Tuple elts kk tpos) (.Call (.Name "enumerate" p) [e] [] pos) (iEnum f) := fun Γ => by
  have h := h Γ
  unfold iEnum
  cases hf : f Γ with
  | bad => exact pi_no fun σ H Q ⟨G, S, q⟩ => q
  | exc x =>
    rw [hf] at h
    exact pi_imp (pi_enum (C.gl hg) hm (pa_cons h pa_nil (by rw [hst]; rfl)) hst) fun σ H Q ⟨G, S, q⟩ => ⟨G, S, q⟩
  | val z =>
    rw [hf] at h
    obtain ⟨y, Γ1⟩ := z
    cases hy : seqA y with
    | none =>
      refine pi_no fun σ H Q ⟨G, S, q⟩ => ?_
      · obtain ⟨_, hq, _⟩ := Pst.ofO (show Pst X W G H σ ((R.ofO (seqA y)).bind fun y => R.val ((enumD y.1, y.2), Γ1)) _ from q)
        rw [hy] at hq
        cases hq
    | some w =>
      have key : ∀ {σ H Q}, rdIU X W Γ ((R.val (y, Γ1)).bind fun z => (R.ofO (seqA z.1)).bind fun y => .val ((enumD y.1, y.2), z.2)) σ H Q → ∃ G, Sta X.K G H σ Γ ∧ ∀ G' H', Ext G H G' H' → ∀ J, Sta X.K G' H' σ Γ1 → ItD X.K G' H' J (enumD w.1) w.2 → Q J H' := fun {σ H Q} ⟨G, S, q⟩ => by
        obtain ⟨_, hq, q⟩ := Pst.ofO (show Pst X W G H σ ((R.ofO (seqA y)).bind fun y => R.val ((enumD y.1, y.2), Γ1)) _ from q)
        rw [hy] at hq
        cases hq
        exact ⟨G, S, q⟩
      unfold seqA at hy
      split at hy
      · cases hy
        refine pi_imp (pi_enum (C.gl hg) hm (pa_cons h pa_nil (by rw [hst]; rfl)) hst) fun σ H Q z => ?_
        obtain ⟨G, S, q⟩ := key z
        refine ⟨G, S, fun G' H' e' v S' a => ?_⟩
        obtain ⟨l, xs, rfl, h1, h2⟩ := dn_list a
        exact ⟨l, xs, rfl, (h1.mono (S'.w.rgl _)).sq, q G' H' e' _ S' (itd_enum h1 h2)⟩
      · cases hy
        refine pi_imp (pi_enumT (C.gl hg) hm (pa_cons h pa_nil (by rw [hst]; rfl)) hst) fun σ H Q z => ?_
        obtain ⟨G, S, q⟩ := key z
        refine ⟨G, S, fun G' H' e' v S' a => ?_⟩
        obtain ⟨l, xs, rfl, h1, h2⟩ := dn_tupleH a
        exact ⟨l, xs, rfl, SqT.of h1, q G' H' e' _ S' (itd_enumT h1 h2)⟩
      · cases hy
def loopU (is : List Nat) (g : DG) (fr : Bool) (b : DS) : List PyData → List Sl → R (Fw × List Sl)
  | [], Γ => .val (.nx, wipeG Γ is)
  | d :: ds, Γ => (R.ofO (g fr d (wipeG Γ is))).bind fun Γ1 => (b Γ1).bind fun z => match z.1 with
    | .nx => loopU is g fr b ds z.2
    | .ct => loopU is g fr b ds z.2
    | .bk => .val (.nx, wipeG z.2 is)
    | .rt r => .val (.rt r, z.2)
def bFor (is : List Nat) (g : DG) (it : DI) (b : DS) : DS := fun Γ => (it Γ).bind fun z => loopU is g z.1.2 b z.1.1 z.2
theorem c1_for (C : Cf X W sc N) (is : List Nat) {body : List Stmt} {it : DI} {ts : List Nat} {gg : DG} {b : DS} (hi : CI X W tg iter it) (hg : CG X tg ts gg) (hb : CS X W body b) (hs : ∀ x, foldedSetIterable iter X.env x = pure x := by intro _; rfl) : C1 X W (.For tg iter body [] pos) (bFor is gg it b) := fun Γ => by
  refine ps_imp (ps_for C.pass C.calm (hi Γ) hg (pss_any fun Γ1 => hb Γ1) hs) fun D σ H ⟨G, S0, q⟩ => ⟨G, S0, (Pst.bind q).imp fun r G1 H1 e1 p1 J S1 I => ?_⟩
  obtain ⟨⟨items, fr⟩, Γ1⟩ := r
  have p1 : Pst X W G1 H1 σ (loopU is gg fr b items Γ1) fun z G' H' => FinU X.K G' H' D z.2 z.1 := p1
  have I : ItD X.K G1 H1 J items fr := I
  let P : Fw × List Sl → Gh → Hp → Prop := fun z G' H' => FinU X.K G' H' D z.2 z.1
  refine ⟨fun i m σ H => m = items.length - i ∧ i ≤ items.length ∧ ∃ G Γ2, Ext G1 H1 G H ∧ Sta X.K G H σ Γ2 ∧ Pst X W G H σ (loopU is gg fr b (items.drop i) Γ2) P, ⟨_, rfl, Nat.zero_le _, G1, Γ1, Ext.rf S1.w, S1, p1⟩, ?_⟩
  rintro i m σ2 H2 ⟨rfl, hi2, G2, Γ2, e2, S2, p2⟩
  by_cases hlt : i < items.length
  · rw [List.drop_eq_getElem_cons hlt] at p2
    unfold loopU at p2
    obtain ⟨Γ3, hg3, p3⟩ := Pst.ofO p2
    refine .inr ⟨I.go i G2 H2 hlt e2.le, fun σ' H' => ∃ G4 Γ4, Ext G1 H1 G4 H' ∧ Sta X.K G4 H' σ' Γ4 ∧ Pst X W G4 H' σ' (loopU is gg fr b (items.drop (i + 1)) Γ4) P, fun σ' H' ⟨G4, Γ4, q1, q2, q3⟩ => ⟨_, ?_, rfl, hlt, G4, Γ4, q1, q2, q3⟩, fun v H3 y => ?_⟩
    · omega
    · obtain ⟨G3, d, hd, e3, S3, dn⟩ := I.yl i G2 H2 σ2 _ v H3 hlt e2.le S2 y
      have hx : d = items[i] := by
        rw [List.getElem?_eq_getElem hlt] at hd
        exact (Option.some.inj hd).symm
      subst hx
      refine ⟨G3, wipeG Γ2 is, fr, items[i], Γ3, S3.wipe is, dn, hg3, fun σ4 _ _ S4 => ⟨Γ3, G3, S4, (Pst.bind (Pst.ext p3 e3)).imp fun z G5 H5 e5 p5 => ?_⟩⟩
      have e15 : Ext G1 H1 G5 H5 := (e2.tr e3).tr e5
      obtain ⟨w, Γ5⟩ := z
      cases w with
      | nx => exact fun σ6 S6 => ⟨G5, Γ5, e15, S6, p5⟩
      | ct => exact fun σ6 S6 => ⟨G5, Γ5, e15, S6, p5⟩
      | bk => exact fun σ6 S6 => p5 G5 H5 (Ext.rf S6.w) σ6 (S6.wipe is)
      | rt r =>
        have q : FinU X.K G5 H5 D Γ5 (.rt r) := p5 G5 H5 (Ext.rf e5.w)
        cases r with
        | d x => exact q
        | c x => exact q
  · have e : i = items.length := by omega
    subst e
    refine .inl ⟨I.st G2 H2 e2.le, ?_⟩
    rw [List.drop_length] at p2
    exact p2 G2 H2 (Ext.rf S2.w) σ2 (S2.wipe is)
def loopW (is : List Nat) (c : DT) (b : DS) : Nat → List Sl → R (Fw × List Sl)
  | 0, _ => .bad
  | n + 1, Γ => (c (wipeG Γ is)).bind fun x => if x.1 then (b x.2).bind fun z => match z.1 with
      | .nx => loopW is c b n z.2
      | .ct => loopW is c b n z.2
      | .bk => .val (.nx, wipeG z.2 is)
      | .rt r => .val (.rt r, z.2)
    else .val (.nx, x.2)
def bWhile (is : List Nat) (fuel : List Sl → Nat) (c : DT) (b : DS) : DS := fun Γ => loopW is c b (fuel Γ) Γ
theorem c1_while (C : Cf0 X W sc N) (is : List Nat) (fuel : List Sl → Nat) {test : Expr} {body : List Stmt} {c : DT} {b : DS} (hc : CT X W test c) (hb : CS X W body b) : C1 X W (.While test body [] pos) (bWhile is fuel c b) := fun Γ => by
  refine ps_imp (ps_while C.pass (pt_any fun Γ1 => hc Γ1) (pss_any fun Γ1 => hb Γ1)) fun D σ H ⟨G1, S1, p1⟩ => ?_
  let P : Fw × List Sl → Gh → Hp → Prop := fun z G' H' => FinU X.K G' H' D z.2 z.1
  let Wh : Nat → St → Hp → Prop := fun m σ H => ∃ G Γ2, Sta X.K G H σ Γ2 ∧ Pst X W G H σ (loopW is c b m Γ2) P
  refine ⟨Wh, ⟨fuel Γ, G1, Γ, S1, p1⟩, ?_⟩
  rintro m σ2 H2 ⟨G2, Γ2, S2, p2⟩
  cases m with
  | zero => exact p2.elim
  | succ m =>
    unfold loopW at p2
    refine ⟨wipeG Γ2 is, G2, S2.wipe is, (Pst.bind p2).imp fun x G3 H3 e3 p3 S3 => ?_⟩
    obtain ⟨z, Γ3⟩ := x
    cases z with
    | false => exact itF (p3 G3 H3 (Ext.rf S3.w) σ2 S3)
    | true =>
      refine itT ⟨Wh m, fun σ' H' h => ⟨m, Nat.lt_succ_self m, h⟩, Γ3, G3, S3, (Pst.bind (show Pst X W G3 H3 σ2 ((b Γ3).bind fun z => match z.1 with
      | .nx => loopW is c b m z.2
      | .ct => loopW is c b m z.2
      | .bk => .val (.nx, wipeG z.2 is)
      | .rt r => .val (.rt r, z.2)) P from p3)).imp fun z G5 H5 e5 p5 => ?_⟩
      obtain ⟨w, Γ5⟩ := z
      cases w with
      | nx => exact fun σ6 S6 => ⟨G5, Γ5, S6, p5⟩
      | ct => exact fun σ6 S6 => ⟨G5, Γ5, S6, p5⟩
      | bk => exact fun σ6 S6 => p5 G5 H5 (Ext.rf S6.w) σ6 (S6.wipe is)
      | rt r =>
        have q : FinU X.K G5 H5 D Γ5 (.rt r) := p5 G5 H5 (Ext.rf e5.w)
        cases r with
        | d x => exact q
        | c x => exact q
end
end PD
set_option Elab.async false
set_option linter.all false
set_option maxRecDepth 100000
set_option maxHeartbeats 4000000
set_option autoImplicit false
namespace PD
open PySem L2
abbrev RN (N : Hp) : Rg := fun a o => N a = some o
def NewIn (B N H H' : Hp) : Prop := ∀ a o, N a = some o → H' a = some o ∧ (H a = none ∨ B a = some o)
inductive Ar where
  | d (x : PyData)
  | n (x : PyData)
  | c (x : Cl)
def Cl.fl (_ : Cl) : Bool := true
structure ArgsU (K : PySem.W.Frag) (H : Hp) (vs : List V) (as : List Ar) (F : Nat → List Addr) (L : List Addr) (B : Hp) : Prop where
  len : vs.length = as.length
  dat : ∀ (i : Nat) (x : PyData), as[i]? = some (Ar.d x) → ∃ v, vs[i]? = some v ∧ Dn K (fun a o => H a = some o ∧ a ∉ L) H v x
  cel : ∀ (i : Nat) (c : Cl), as[i]? = some (Ar.c c) → ∃ v, vs[i]? = some v ∧ c.ok K (RN B) H v (F i)
  emp : ∀ i : Nat, (∀ c, as[i]? ≠ some (Ar.c c)) → F i = []
  all : ∀ i p, p ∈ F i → p ∈ L
  al : ∀ p, p ∈ L → H p ≠ none
  dj : ∀ i j p, p ∈ F i → p ∈ F j → i = j
  nat : ∀ (i : Nat) (x : PyData), as[i]? = some (Ar.n x) → ∃ v, vs[i]? = some v ∧ Dn K (RN B) H v x
  bok : ∀ a o, B a = some o → H a = some o ∧ a ∉ L
structure PostU (K : PySem.W.Frag) (H : Hp) (vs : List V) (F : Nat → List Addr) (L : List Addr) (B : Hp) (H' N : Hp) (Z : List Sl) (F' : Nat → List Addr) : Prop where
  keep : ∀ a o, H a = some o → a ∉ L → H' a = some o
  pal : ∀ a, a ∈ L → H' a ≠ none
  t : TupLe H H'
  new : NewIn B N H H'
  cel : ∀ (i : Nat) (c : Cl), Z[i]? = some (Sl.io c) → ∃ v, vs[i]? = some v ∧ c.ok K (RN N) H' v (F' i)
  al : ∀ i p, p ∈ F' i → H' p ≠ none ∧ N p = none ∧ (p ∈ L ∨ H p = none)
  dj : ∀ i j p, p ∈ F' i → p ∈ F' j → i = j
def RsOk (K : PySem.W.Frag) (N H' : Hp) (Q : VK) : Rs → Prop
  | .d d => ∀ v, Dn K (RN N) H' v d → Q v H'
  | .c c => ∀ v H2, NewC K (RN N) H' c v H2 → Q v H2
def spU (K : PySem.W.Frag) (mg : Str → Option Value) (m : List Ar → R (Rs × List Sl)) : Sp := fun vs H Q E => ∃ as F L B, ArgsU K H vs as F L B ∧ match m as with
  | .bad => False
  | .exc x => ∀ H' N F' C d, PostU K H vs F L B H' N x.st F' → mg x.cls = some (.ref C) → XdOk K (RN N) H' d x.flds → E (.ref C) d H'
  | .val z => ∀ H' N F', PostU K H vs F L B H' N z.2 F' → RsOk K N H' Q z.1
def scD : PyData → Bool
  | .none => true
  | .bool _ => true
  | .int _ => true
  | .str _ => true
  | _ => false
theorem scD_flat {d : PyData} (h : scD d = true) : flat d = true := by cases d <;> first | rfl | cases h
def arS : Ar → Sl
  | .d x => .dat (scD x) x
  | .n x => .dat true x
  | .c c => .io c
def initS (n : Nat) (as : List Ar) : List Sl := as.map arS ++ List.replicate (n - as.length) .un
def cellsAt : List Ar → List Sl → Option (List Sl)
  | [], _ => some []
  | .d _ :: as, _ :: Γ => (cellsAt as Γ).map (.un :: ·)
  | .n _ :: as, _ :: Γ => (cellsAt as Γ).map (.un :: ·)
  | .c _ :: as, .io c :: Γ => (cellsAt as Γ).map (.io c :: ·)
  | _, _ => none
theorem cellsAt_get : ∀ {as : List Ar} {Γ Z : List Sl} {i : Nat} {c : Cl}, cellsAt as Γ = some Z → Z[i]? = some (.io c) → Γ[i]? = some (.io c) ∧ ∃ c0, as[i]? = some (.c c0)
  | [], Γ, Z, i, c, h, hz => by
    cases h
    simp at hz
  | .d x :: as, [], Z, i, c, h, hz => by cases h
  | .d x :: as, g :: Γ, Z, i, c, h, hz => by
    have h : (cellsAt as Γ).map (.un :: ·) = some Z := h
    cases e : cellsAt as Γ with
    | none => rw [e] at h; cases h
    | some Y =>
      rw [e] at h
      cases h
      cases i with
      | zero => simp at hz
      | succ i => exact cellsAt_get (i := i) e (by simpa using hz)
  | .n x :: as, [], Z, i, c, h, hz => by cases h
  | .n x :: as, g :: Γ, Z, i, c, h, hz => by
    have h : (cellsAt as Γ).map (.un :: ·) = some Z := h
    cases e : cellsAt as Γ with
    | none => rw [e] at h; cases h
    | some Y =>
      rw [e] at h
      cases h
      cases i with
      | zero => simp at hz
      | succ i => exact cellsAt_get (i := i) e (by simpa using hz)
  | .c x :: as, [], Z, i, c, h, hz => by cases h
  | .c x :: as, .io q :: Γ, Z, i, c, h, hz => by
    have h : (cellsAt as Γ).map (.io q :: ·) = some Z := h
    cases e : cellsAt as Γ with
    | none => rw [e] at h; cases h
    | some Y =>
      rw [e] at h
      cases h
      cases i with
      | zero => exact ⟨hz, x, rfl⟩
      | succ i => exact cellsAt_get (i := i) e (by simpa using hz)
  | .c x :: as, .un :: Γ, Z, i, c, h, hz => by cases h
  | .c x :: as, .dat _ _ :: Γ, Z, i, c, h, hz => by cases h
  | .c x :: as, .own _ :: Γ, Z, i, c, h, hz => by cases h
def fwR : Fw → Option Rs
  | .nx => some (.d .none)
  | .rt r => some r
  | _ => none
def endB (as : List Ar) : R (Fw × List Sl) → R (Rs × List Sl)
  | .bad => .bad
  | .exc x => (R.ofO (cellsAt as x.st)).bind fun Z => .exc ⟨x.cls, x.flds, Z⟩
  | .val z => (R.ofO (fwR z.1)).bind fun r => (R.ofO (cellsAt as z.2)).bind fun Z => .val (r, Z)
@[irreducible] def runB (n np : Nat) (b : DS) (as : List Ar) : R (Rs × List Sl) := (R.req (as.length == np)).bind fun _ => endB as (b (initS n as))
theorem start_get {N : List Str} {vs : List V} {i : Nat} (h : i < vs.length) : (L2.start N vs)[i]? = (vs.map some)[i]? := by
  unfold L2.start
  rw [List.getElem?_append_left (by simpa using h)]
section
variable {P : Program} {w : World} {K : PySem.W.Frag} {mg : Str → Option Value} {base : Heap} {x qual : Str} {params : Arguments} {body : List Stmt} {scope : Scope} {dvs : List V} {kws : List (Str × V)} {f : Addr} {fd : FuncData} {N ps : List Str} {k : Nat}
structure Here (X : Cx) (W : WX) (P : Program) (w : World) (K : PySem.W.Frag) (mg : Str → Option Value) (base : Heap) (scope : Scope) (N : List Str) (k : Nat) : Prop where
  cf : Cf X W scope N
  prog : X.prog = P
  w : X.w = w
  K : X.K = K
  mg : X.mg = mg
  base : X.base = base
  room : Room k X.A
  fn : ∀ x, X.fn x = true
  stk : X.stack = X.env :: X.outer
  frm : X.env.frame = some X.env.locals
theorem here_of (S : FnScope N ps scope) {cdv : Value} {A : Around} {outer : List Env} {s : Shared} {H : Hp} {E : XK} (hr : Room k (A.deeper (PyProof.Rows.envOfC qual scope s.heap.objs.size f cdv))) :
    Here (cxOf (L2.CX P w) P w K mg base N qual scope f cdv A outer s H E) (fun cls d _ H => E cls d H) P w K mg base scope N k := by
  refine ⟨⟨⟨rfl, rfl, S.nd, takes_of rfl rfl rfl rfl, ?_, passes_of rfl, ?_⟩, rfl⟩, rfl, rfl, rfl, rfl, rfl, hr, fun x => rfl, rfl, rfl⟩
  · have := hr.un
    show (A.deeper _).units + 64 < cLine
    omega
  · have := hr.un
    show (A.deeper _).units + 150 < cLine
    omega
theorem fn_len {np nn : Nat} {b : DS} : ∀ vs H Q E, spU K mg (runB nn np b) vs H Q E → vs.length = np := fun vs H Q E ⟨as, Fp, L, B, A, h⟩ => by
  rw [A.len]
  by_cases e : as.length = np
  · exact e
  · have : (as.length == np) = false := by simpa using e
    unfold runB at h
    rw [this] at h
    exact h.elim
theorem fn_pre {b : DS} (hle : ps.length ≤ N.length) {X : Cx} (eK : X.K = K) (eM : X.mg = mg) {vs : List V} {H : Hp} {Q : VK} {E : XK} (hsp : spU K mg (runB N.length ps.length b) vs H Q E) :
    ∃ Γ, rdB X (fun cls d _ H => E cls d H) Γ (b Γ) { nx := fun _ H' => Q .non H', rt := Q } (L2.start N vs) H := by
  subst eK eM
  have hvl := fn_len vs H Q E hsp
  obtain ⟨as, Fp, L, B, AU, hq⟩ := hsp
  have hal : as.length = ps.length := AU.len.symm.trans hvl
  have hq : match endB as (b (initS N.length as)) with
    | .bad => False
    | .exc x => ∀ H' N F' C d, PostU X.K H vs Fp L B H' N x.st F' → X.mg x.cls = some (.ref C) → XdOk X.K (RN N) H' d x.flds → E (.ref C) d H'
    | .val z => ∀ H' N F', PostU X.K H vs Fp L B H' N z.2 F' → RsOk X.K N H' Q z.1 := by
    unfold runB at hq
    rw [show (as.length == ps.length) = true by simpa using hal] at hq
    exact hq
  refine ⟨initS N.length as, ?_⟩
  let cv : Nat → Option V := fun i => match as[i]? with
    | some (.c _) => vs[i]?
    | _ => none
  let G : Gh := ⟨H, L, cv, B, fun _ => none⟩
  have wf : Wf G H := ⟨fun a o h _ => h, fun a o h => ⟨(AU.bok a o h).1, trivial⟩, fun a h => AU.al a h, fun a h => AU.al a h, fun a o h => (by cases h), fun i p h => by
    have h : cv i = some (.ref p) := h
    simp only [cv] at h
    split at h
    · rename_i c hc
      obtain ⟨v, h1, h2⟩ := AU.cel i c hc
      rw [h1] at h
      cases h
      rcases Cl.root h2 with z | z
      · exact .inl (AU.all i p z)
      · exact .inr (.inr z)
    · cases h⟩
  have hg : RgLe (fun a o => H a = some o ∧ a ∉ L) (rg G false) := fun a o h => .inr h
  have st : Sta X.K G H (L2.start N vs) (initS N.length as) := by
    refine ⟨Fp, wf, ?_, fun i s h => ?_, fun i p h => ⟨AU.al p (AU.all i p h), (by cases q : B p with | none => exact q | some u => exact absurd (AU.all i p h) (AU.bok p u q).2), .inl (AU.all i p h)⟩, fun i p h => rfl, AU.dj, fun i j k ns h1 h2 => ?_⟩
    rotate_right
    · unfold initS at h2
      by_cases hj : j < as.length
      · rw [List.getElem?_append_left (by simpa using hj), List.getElem?_map] at h2
        cases ha : as[j]? with
        | none => rw [ha] at h2; cases h2
        | some y => rw [ha] at h2; cases y <;> cases h2
      · rw [List.getElem?_append_right (by simpa using hj)] at h2
        have := List.eq_of_mem_replicate (List.mem_of_getElem? h2)
        cases this
    · unfold initS L2.start
      simp [AU.len]
    · by_cases hi : i < as.length
      · have hi2 : i < vs.length := by rw [AU.len]; exact hi
        rw [start_get hi2, List.getElem?_map]
        unfold initS at h
        rw [List.getElem?_append_left (by simpa using hi), List.getElem?_map] at h
        cases ha : as[i]? with
        | none => rw [ha] at h; cases h
        | some y =>
          rw [ha] at h
          cases h
          cases y with
          | d x =>
            obtain ⟨v, h1, h2⟩ := AU.dat i x ha
            rw [h1]
            refine ⟨AU.emp i (by rw [ha]; intro c z; cases z), v, rfl, ?_⟩
            cases hx : scD x with
            | true => exact Dn.free h2 (scD_flat hx)
            | false => exact h2.mono hg (TupLe.rf _)
          | n x =>
            obtain ⟨v, h1, h2⟩ := AU.nat i x ha
            rw [h1]
            exact ⟨AU.emp i (by rw [ha]; intro c z; cases z), v, rfl, h2⟩
          | c c =>
            obtain ⟨v, h1, h2⟩ := AU.cel i c ha
            rw [h1]
            refine ⟨v, rfl, ?_, h2⟩
            show cv i = some v
            simp only [cv, ha, h1]
      · unfold initS at h
        rw [List.getElem?_append_right (by simpa using hi)] at h
        have : s = .un := List.eq_of_mem_replicate (List.mem_of_getElem? h)
        subst this
        exact AU.emp i (by rw [List.getElem?_eq_none (by omega)]; intro c z; cases z)
  have post : ∀ G' H' σ' Γ' Z, Ext G H G' H' → Sta X.K G' H' σ' Γ' → cellsAt as Γ' = some Z → ∃ F', PostU X.K H vs Fp L B H' G'.N Z F' := fun G' H' σ' Γ' Z e ⟨A', S'⟩ hz => by
    have h0 : G'.H0 = H := e.h0
    have hP : G'.P = L := e.p
    refine ⟨fun i => match Z[i]? with | some (.io _) => A' i | _ => [], fun a o h hp => e.w.keep a o (by rw [h0]; exact h) (by rw [hP]; exact hp), fun a ha => e.w.pal a (by rw [hP]; exact ha), e.t, fun a o h => ⟨(e.w.new a o h).1, (e.nn a o h).elim .inr .inl⟩, fun i c hc => ?_, fun i p hp => ?_, fun i j p hi hj => ?_⟩
    · obtain ⟨g1, c0, g2⟩ := cellsAt_get hz hc
      obtain ⟨v, q1, q2, q3⟩ := S'.sl i _ g1
      have q2 : G'.I i = some v := q2
      rw [e.i] at q2
      have q2 : cv i = some v := q2
      simp only [cv, g2] at q2
      refine ⟨v, q2, ?_⟩
      simp only [hc]
      exact q3
    · have hp : p ∈ (match Z[i]? with | some (.io _) => A' i | _ => []) := hp
      split at hp
      · rename_i c hc
        obtain ⟨q1, q2, q3⟩ := S'.al i p hp
        refine ⟨q1, q2, ?_⟩
        rw [hP, h0] at q3
        exact q3
      · cases hp
    · have hi : p ∈ (match Z[i]? with | some (.io _) => A' i | _ => []) := hi
      have hj : p ∈ (match Z[j]? with | some (.io _) => A' j | _ => []) := hj
      split at hi
      · split at hj
        · exact S'.dj i j p hi hj
        · cases hj
      · cases hi
  refine ⟨G, st, ?_⟩
  cases hm : b (initS N.length as) with
  | bad => rw [hm] at hq; exact hq
  | exc ex =>
    rw [hm] at hq
    intro G' H' σ' C d e S' g1 g2
    cases hz : cellsAt as ex.st with
    | none =>
      have hq : (match (R.ofO (cellsAt as ex.st)).bind (fun Z => (R.exc ⟨ex.cls, ex.flds, Z⟩ : R (Rs × List Sl))) with | .bad => False | .exc x => _ | .val z => _) := hq
      rw [hz] at hq
      exact hq.elim
    | some Z =>
      have hq : (match (R.ofO (cellsAt as ex.st)).bind (fun Z => (R.exc ⟨ex.cls, ex.flds, Z⟩ : R (Rs × List Sl))) with | .bad => False | .exc x => _ | .val z => _) := hq
      rw [hz] at hq
      obtain ⟨F', hp⟩ := post G' H' σ' ex.st Z e S' hz
      exact hq H' G'.N F' C d hp g1 g2
  | val r =>
    rw [hm] at hq
    intro G' H' e
    obtain ⟨w, Γ'⟩ := r
    have hq : (match (R.ofO (fwR w)).bind (fun r => (R.ofO (cellsAt as Γ')).bind fun Z => (R.val (r, Z) : R (Rs × List Sl))) with | .bad => False | .exc x => _ | .val z => _) := hq
    cases hz : cellsAt as Γ' with
    | none =>
      rw [hz] at hq
      cases hw : fwR w <;> rw [hw] at hq <;> exact hq.elim
    | some Z =>
      rw [hz] at hq
      have fin : ∀ r, fwR w = some r → ∀ σ', Sta X.K G' H' σ' Γ' → RsOk X.K G'.N H' Q r := fun r hr σ' S' => by
        rw [hr] at hq
        obtain ⟨F', hp⟩ := post G' H' σ' Γ' Z e S' hz
        exact hq H' G'.N F' hp
      cases w with
      | nx => exact fun σ' S' => fin _ rfl σ' S' .non .non
      | bk => exact hq.elim
      | ct => exact hq.elim
      | rt r =>
        cases r with
        | d x => exact fun σ' v S' hv => fin _ rfl σ' S' v hv
        | c x => exact fun σ' v H2 S' hn => fin _ rfl σ' S' v H2 hn
theorem fn_u (F : FunD K x qual params body scope dvs kws f fd) (S : FnScope N ps scope) {b : DS} (hle : ps.length ≤ N.length) (hb : ∀ X W, Here X W P w K mg base scope N k → CS X W body b) :
    FnOk P w K mg base (L2.CX P w) (k + 1) f fd ps (spU K mg (runB N.length ps.length b)) :=
  F.ok S fn_len fun cdv A outer s H vs Q E hr hsp => by
    obtain ⟨Γ, h⟩ := fn_pre hle (X := cxOf (L2.CX P w) P w K mg base N qual scope f cdv A outer s H E) rfl rfl hsp
    exact ⟨_, hb _ _ (here_of S hr) Γ, h⟩
end
end PD
set_option Elab.async false
set_option linter.all false
set_option maxRecDepth 100000
set_option maxHeartbeats 4000000
set_option autoImplicit false
namespace PD
open PySem L2
def Clee (X : Cx) (x : Str) (dvs : List V) (sp : Sp) : Prop :=
  ∃ (k : Nat) (f : Addr) (fd : FuncData) (ps : List Str) (ds : List Value), FnOk X.prog X.w X.K X.mg X.base (L2.CX X.prog X.w) k f fd ps sp ∧ Room k X.A ∧ X.mg x = some (.ref f) ∧ PySem.W.keepIn X.K (.ref f) = true ∧ Binds X.K fd ps ds ∧ Vals dvs ds
def jn (N N' : Hp) : Hp := fun a => match N a with
  | some o => some o
  | none => N' a
theorem jn_left {N N' : Hp} {a : Addr} {o : HO} (h : N a = some o) : jn N N' a = some o := by unfold jn; rw [h]
theorem jn_right {N N' : Hp} {a : Addr} (h : N a = none) : jn N N' a = N' a := by unfold jn; rw [h]
theorem jn_cases {N N' : Hp} {a : Addr} {o : HO} (h : jn N N' a = some o) : N a = some o ∨ (N a = none ∧ N' a = some o) := by
  cases q : N a with
  | some u => rw [jn_left q] at h; exact .inl h
  | none => rw [jn_right q] at h; exact .inr ⟨rfl, h⟩
theorem Same.tup {H H' : Hp} (s : Same H H') : TupLe H H' := fun a xs h => s a _ h
theorem grow_call {G : Gh} {H H' N : Hp} (w : Wf G H) (s : Same H H') (n : NewIn G.N N H H') : Grow G H (jn G.N N) H' [] ∧ RgLe (RN N) (RN (jn G.N N)) := by
  refine ⟨⟨fun a o h _ => s a o h, fun _ h => absurd h (by simp), Same.tup s, fun a o h => jn_left h, fun a o h => ?_⟩, fun a o h => ?_⟩
  · rcases jn_cases h with h | ⟨h1, h2⟩
    · exact ⟨s a o (w.new a o h).1, .inl h⟩
    · exact ⟨(n a o h2).1, (n a o h2).2.elim .inr .inl⟩
  · show jn G.N N a = some o
    cases q : G.N a with
    | none => rw [jn_right q]; exact h
    | some u =>
      rcases (n a o h).2 with z | z
      · have := (w.new a u q).1
        rw [z] at this
        cases this
      · exact jn_left z
theorem call_end {K : PySem.W.Frag} {G : Gh} {H H' N' : Hp} {σ : St} {Γ : List Sl} (S : Sta K G H σ Γ) (s : Same H H') (n : NewIn G.N N' H H') :
    ∃ G', Sta K G' H' σ Γ ∧ Ext G H G' H' ∧ RgLe (RN N') (rg G' true) := by
  obtain ⟨g, l⟩ := grow_call S.w s n
  obtain ⟨S', e⟩ := S.grow g
  exact ⟨_, S', e, l⟩
def rdW (Γ : List Sl) (j : Nat) : Option PyData := match Γ[j]? with
  | some (.own (.tr T)) => trD T
  | some (.io (.tr T)) => trD T
  | _ => rdD Γ (.s j)
theorem StaA.rdW {K : PySem.W.Frag} {G : Gh} {H : Hp} {σ : St} {Γ : List Sl} {A : Nat → List Addr} {j : Nat} {x : PyData} {v : V} (S : StaA K G H σ Γ A) (h : PD.rdW Γ j = some x) (hv : σ[j]? = some (some v)) :
    Dn K (fun a o => H a = some o ∧ (G.N a = some o ∨ a ∈ A j ∨ G.E a = some o)) H v x := by
  have l : RgLe (RgN G) (fun a o => H a = some o ∧ (G.N a = some o ∨ a ∈ A j ∨ G.E a = some o)) := fun a o z => ⟨(S.w.new a o z).1, .inl z⟩
  unfold PD.rdW at h
  split at h
  · obtain ⟨u, h1, h2, h3⟩ := S.sl j _ ‹_›
    rw [hv] at h1
    cases h1
    exact TreOk.dn l h3.1 (fun a ha o ho => ⟨ho, .inr (.inl ha)⟩) x h
  · obtain ⟨u, h1, h2, h3⟩ := S.sl j _ ‹_›
    rw [hv] at h1
    cases h1
    exact TreOk.dn l h3.1 (fun a ha o ho => ⟨ho, .inr (.inl ha)⟩) x h
  · unfold rdD at h
    simp only at h
    split at h
    · cases h
      obtain ⟨u, h1, h2, p, vs, rfl, hfp, hp, hd⟩ := S.sl j _ ‹_›
      rw [hv] at h1
      cases h1
      exact .lst (.inl ⟨hp, .inr (.inl (by rw [hfp]; simp))⟩) (hd.mono l (TupLe.rf _))
    · cases h
      obtain ⟨u, h1, h2, p, vs, rfl, hfp, hp, hd⟩ := S.sl j _ ‹_›
      rw [hv] at h1
      cases h1
      exact .lst (.inl ⟨hp, .inr (.inl (by rw [hfp]; simp))⟩) (hd.mono l (TupLe.rf _))
    · cases h
      obtain ⟨_, p, o, h1, h2, h3, h4, h5, q, vs, e, _, h6, h7⟩ := S.sl j _ ‹_›
      rw [hv] at h1
      cases h1
      cases e
      rw [h3] at h6
      cases h6
      exact .lst (.inl ⟨h3, .inr (.inr h4)⟩) (h7.mono l (TupLe.rf _))
    · cases h
theorem Sta.rdW {K : PySem.W.Frag} {G : Gh} {H : Hp} {σ : St} {Γ : List Sl} {j : Nat} {x : PyData} {v : V} (S : Sta K G H σ Γ) (h : PD.rdW Γ j = some x) (hv : σ[j]? = some (some v)) : Dn K (fun a o => H a = some o ∧ a ∉ []) H v x := by
  obtain ⟨A, T⟩ := S
  exact (T.rdW h hv).mono (fun a o z => ⟨z.1, by simp⟩) (TupLe.rf _)
def rdDs (Γ : List Sl) (i : Option Nat) : List AV → Option (List PyData)
  | [] => some []
  | .d _ x :: as => (rdDs Γ i as).map (x :: ·)
  | .s j :: as => if some j = i then none else (rdW Γ j).bind fun x => (rdDs Γ i as).map (x :: ·)
theorem rdDs_ok {K : PySem.W.Frag} {G : Gh} {H : Hp} {σ : St} {Γ : List Sl} {i : Option Nat} {fp : List Addr} (S : Sta K G H σ Γ) (hr : ∀ fr a o, rg G fr a o → a ∉ fp) (hs : ∀ (j : Nat) (x : PyData) (v : V), some j ≠ i → rdW Γ j = some x → σ[j]? = some (some v) → Dn K (fun a o => H a = some o ∧ a ∉ fp) H v x) :
    ∀ {as : List AV} {ds : List PyData} {vs : List V}, rdDs Γ i as = some ds → AVs K G H σ vs as → DnA K (fun a o => H a = some o ∧ a ∉ fp) H vs ds
  | [], _, _, h, .nil => by cases h; exact .nil
  | .d fr x :: as, ds, _, h, .cons q r => by
    have h : (rdDs Γ i as).map (x :: ·) = some ds := h
    cases e : rdDs Γ i as with
    | none => rw [e] at h; cases h
    | some xs =>
      rw [e] at h
      cases h
      exact .cons (Dn.mono (fun b o z => ⟨S.w.rgl fr b o z, hr fr b o z⟩) (TupLe.rf _) q) (rdDs_ok S hr hs e r)
  | .s j :: as, ds, _, h, .cons (v := v) q r => by
    unfold rdDs at h
    split at h
    · cases h
    · rename_i hj
      cases e1 : rdW Γ j with
      | none => rw [e1] at h; cases h
      | some x =>
        rw [e1] at h
        have h : (rdDs Γ i as).map (x :: ·) = some ds := h
        cases e : rdDs Γ i as with
        | none => rw [e] at h; cases h
        | some xs =>
          rw [e] at h
          cases h
          exact .cons (hs j x v hj e1 q) (rdDs_ok S hr hs e r)
theorem dna_at {K : PySem.W.Frag} {G : Rg} {H : Hp} {vs : List V} {ds : List PyData} {i : Nat} {x : PyData} (h : DnA K G H vs ds) (hx : (ds.map Ar.d)[i]? = some (.d x)) : ∃ v, vs[i]? = some v ∧ Dn K G H v x := by
  rw [List.getElem?_map] at hx
  cases e : ds[i]? with
  | none => rw [e] at hx; cases hx
  | some y =>
    rw [e] at hx
    cases hx
    exact h.get' e
theorem argsD {K : PySem.W.Frag} {H : Hp} {vs : List V} {ds : List PyData} (h : DnA K (fun a o => H a = some o ∧ a ∉ []) H vs ds) {B : Hp} (hB : ∀ a o, B a = some o → H a = some o) : ArgsU K H vs (ds.map Ar.d) (fun _ => []) [] B where
  len := by rw [List.length_map]; exact h.length
  dat := fun i x hx => dna_at h hx
  cel := fun i c hc => by
    rw [List.getElem?_map] at hc
    cases e : ds[i]? <;> rw [e] at hc <;> cases hc
  emp := fun _ _ => rfl
  all := fun _ _ h => h
  al := fun p h => absurd h (by simp)
  dj := fun i j p h => absurd h (by simp)
  nat := fun i x hx => by
    rw [List.getElem?_map] at hx
    cases e : ds[i]? <;> rw [e] at hx <;> cases hx
  bok := fun a o h => ⟨hB a o h, by simp⟩
def R.atX {α : Type} (Γ : List Sl) : R α → R α
  | .exc x => .exc ⟨x.cls, x.flds, Γ⟩
  | m => m
section
variable {X : Cx} {W : WX} {sc : Scope} {N : List Str} {x : Str} {e : Expr} {es : List Expr} {p pos : Pos} {k : DA} {dvs : List V} {dds : List PyData} {m : List Ar → R (Rs × List Sl)}
theorem callD_core {Γ : List Sl} {G : Gh} {H : Hp} {σ : St} {as : List AV} {ds : List PyData} {vs : List V} {Q : VK} (hdv : ∀ G H, DnA X.K G H dvs dds) (S : Sta X.K G H σ Γ) (av : AVs X.K G H σ vs as) (hd : rdDs Γ none as = some ds)
    (hp : Pst X W G H σ ((m ((ds ++ dds).map Ar.d)).atX Γ) fun z G' H' => Sta X.K G' H' σ Γ → RsOk X.K G'.N H' Q z.1) : spU X.K X.mg m (vs ++ dvs) H Q (fun cls d H => W cls d σ H) := by
  have h1 : DnA X.K (fun a o => H a = some o ∧ a ∉ []) H vs ds := rdDs_ok (i := none) (fp := []) S (fun _ _ _ _ => by simp) (fun _ _ _ _ hr hv => S.rdW hr hv) hd av
  refine ⟨_, _, _, G.N, argsD (h1.append (hdv _ _)) (fun a o h => (S.w.new a o h).1), ?_⟩
  cases hm : m ((ds ++ dds).map Ar.d) with
  | bad => rw [hm] at hp; exact hp
  | exc y =>
    rw [hm] at hp
    intro H' N' F' C d P g1 g2
    obtain ⟨G', S', e', l⟩ := call_end S (fun a o h => P.keep a o h (by simp)) P.new
    refine hp G' H' σ C d e' S' g1 ?_
    rcases g2 with ⟨a, fs, q1, q2, q3, q4⟩ | q
    · exact .inl ⟨a, fs, q1, l _ _ q2, q3, q4.mono l (TupLe.rf _)⟩
    · exact .inr q
  | val z =>
    rw [hm] at hp
    intro H' N' F' P
    obtain ⟨G', S', e', l⟩ := call_end S (fun a o h => P.keep a o h (by simp)) P.new
    have q := hp G' H' e' S'
    cases hz : z.1 with
    | d y => rw [hz] at q; exact fun v hv => q v (hv.mono l (TupLe.rf _))
    | c y => rw [hz] at q; exact fun v H2 ⟨fp, n1, n2, n3⟩ => q v H2 ⟨fp, n1, n2, Cl.mono n3 l (fun _ _ => rfl) (TupLe.rf _)⟩
def rsC : Rs → Option Cl
  | .c x => some x
  | _ => none
end
end PD
set_option Elab.async false
set_option linter.all false
set_option maxRecDepth 100000
set_option maxHeartbeats 4000000
set_option autoImplicit false
namespace PD
open PySem L2
theorem Sta.cellU {K : PySem.W.Frag} {G : Gh} {H : Hp} {σ : St} {Γ : List Sl} {c : Cl} (S : Sta K G H σ Γ) (i : Nat) (io : Bool) (hi : Γ[i]? = some (if io then .io c else .own c)) :
    ∃ v fp, σ[i]? = some (some v) ∧ c.ok K (RgN G) H v fp ∧ (∀ p ∈ fp, H p ≠ none) ∧ (∀ fr a o, rg G fr a o → a ∉ fp) ∧ (∀ (j : Nat) (x : PyData) (u : V), j ≠ i → PD.rdW Γ j = some x → σ[j]? = some (some u) → Dn K (fun a o => H a = some o ∧ a ∉ fp) H u x) ∧
      ∀ H' N' fp' c', (∀ a o, H a = some o → a ∉ fp → H' a = some o) → (∀ a ∈ fp, H' a ≠ none) → TupLe H H' → NewIn G.N N' H H' → c'.ok K (RN N') H' v fp' → (∀ p ∈ fp', H' p ≠ none ∧ N' p = none ∧ (p ∈ fp ∨ H p = none)) →
        ∃ G', Sta K G' H' σ (Γ.set i (if io then .io c' else .own c')) ∧ Ext G H G' H' ∧ RgLe (RN N') (rg G' true) := by
  obtain ⟨A, S⟩ := S
  have key : ∃ v, σ[i]? = some (some v) ∧ c.ok K (RgN G) H v (A i) ∧ (io = true → G.I i = some v) ∧ (io = false → ∀ p ∈ A i, G.H0 p = none) := by
    cases io with
    | true =>
      obtain ⟨v, h1, h2, h3⟩ := S.sl i _ hi
      exact ⟨v, h1, h3, fun _ => h2, fun h => by cases h⟩
    | false =>
      obtain ⟨v, h1, h2, h3⟩ := S.sl i _ hi
      exact ⟨v, h1, h3, fun h => absurd h (by simp), fun _ => h2⟩
  obtain ⟨v, h1, h2, h3, h4⟩ := key
  refine ⟨v, A i, h1, h2, fun p hp => (S.al i p hp).1, fun fr a o h hp => ?_, fun j x u hj hr hu => ?_, fun H' N' fp' c' k1 k2 t n ok f => ?_⟩
  · obtain ⟨_, q1, q2⟩ := S.al i a hp
    cases fr with
    | true =>
      have h : G.N a = some o := h
      rw [q1] at h; cases h
    | false =>
      rcases h with h | ⟨h, h'⟩
      · rw [q1] at h; cases h
      · rcases q2 with q2 | q2
        · exact h' q2
        · rw [q2] at h; cases h
  · refine (S.rdW hr hu).mono (fun a o z => ⟨z.1, fun hp => ?_⟩) (TupLe.rf _)
    rcases z.2 with z | z | z
    · rw [(S.al i a hp).2.1] at z; cases z
    · exact hj (S.dj j i a z hp)
    · rw [S.ae i a hp] at z; cases z
  · have g : Grow G H (jn G.N N') H' (A i) := by
      refine ⟨k1, k2, t, fun a o h => jn_left h, fun a o h => ?_⟩
      rcases jn_cases h with h | ⟨_, h⟩
      · refine ⟨k1 a o (S.w.new a o h).1 fun hp => ?_, .inl h⟩
        rw [(S.al i a hp).2.1] at h; cases h
      · exact ⟨(n a o h).1, (n a o h).2.elim .inr .inl⟩
    have l : RgLe (RN N') (RN (jn G.N N')) := fun a o h => by
      show jn G.N N' a = some o
      cases q : G.N a with
      | none => rw [jn_right q]; exact h
      | some u =>
        rcases (n a o h).2 with z | z
        · have := (S.w.new a u q).1
          rw [z] at this
          cases this
        · exact jn_left z
    have f2 : ∀ p ∈ fp', H' p ≠ none ∧ jn G.N N' p = none ∧ (p ∈ A i ∨ H p = none) := fun p hp => by
      obtain ⟨q1, q2, q3⟩ := f p hp
      refine ⟨q1, ?_, q3⟩
      have : G.N p = none := by
        rcases q3 with q3 | q3
        · exact (S.al i p q3).2.1
        · exact (S.w.fresh q3).1
      rw [jn_right this]
      exact q2
    obtain ⟨S', e⟩ := S.step (i := i) (fp' := fp') (s' := if io then .io c' else .own c') (σ' := σ) g (fun p hp => hp) (fun j hj => rfl) rfl (fun hlt => by
      cases io with
      | true => exact ⟨v, h1, h3 rfl, Cl.mono ok l (fun _ _ => rfl) (TupLe.rf _)⟩
      | false =>
        refine ⟨v, h1, fun p hp => ?_, Cl.mono ok l (fun _ _ => rfl) (TupLe.rf _)⟩
        rcases (f p hp).2.2 with q | q
        · exact h4 rfl p q
        · exact (S.w.fresh q).2.1) f2
    exact ⟨_, S', e, l⟩
def cellAt (Γ : List Sl) (i : Nat) : Option (Bool × Cl) := match Γ[i]? with
  | some (.own c) => some (false, c)
  | some (.io c) => some (true, c)
  | _ => none
theorem cellAt_ok {Γ : List Sl} {i : Nat} {z : Bool × Cl} (h : cellAt Γ i = some z) : Γ[i]? = some (if z.1 then .io z.2 else .own z.2) := by
  unfold cellAt at h
  split at h
  · cases h; exact ‹_›
  · cases h; exact ‹_›
  · cases h
def pickC (n : Nat) (as : List AV) : Option Nat := match as[n]? with
  | some (.s i) => some i
  | _ => none
def insC (n : Nat) (c : Cl) (ds : List PyData) : List Ar := (ds.take n).map Ar.d ++ .c c :: (ds.drop n).map Ar.d
def ioAt (n : Nat) (Z : List Sl) : Option Cl := match Z[n]? with
  | some (.io c) => some c
  | _ => none
theorem ioAt_ok {n : Nat} {Z : List Sl} {c : Cl} (h : ioAt n Z = some c) : Z[n]? = some (.io c) := by
  unfold ioAt at h
  split at h
  · cases h; exact ‹_›
  · cases h
def R.atC (n : Nat) (Γ : List Sl) (i : Nat) (io : Bool) : R (Rs × List Sl) → R (Rs × List Sl)
  | .bad => .bad
  | .exc x => (R.ofO (ioAt n x.st)).bind fun c => .exc ⟨x.cls, x.flds, Γ.set i (mkS io c)⟩
  | .val z => (R.ofO (ioAt n z.2)).bind fun c => .val (z.1, Γ.set i (mkS io c))
theorem avs_erase {K : PySem.W.Frag} {G : Gh} {H : Hp} {σ : St} : ∀ {n i : Nat} {as : List AV} {vs : List V}, AVs K G H σ vs as → as[n]? = some (.s i) → ∃ v v1 v2, vs = v1 ++ v :: v2 ∧ v1.length = n ∧ σ[i]? = some (some v) ∧ AVs K G H σ (v1 ++ v2) (as.eraseIdx n)
  | 0, i, _, _, .cons (v := v) (vs := vs) h r, e => by
    cases e
    exact ⟨v, [], vs, rfl, rfl, h, r⟩
  | n + 1, i, _, _, .cons (v := u) h r, e => by
    obtain ⟨v, v1, v2, rfl, h1, h2, h3⟩ := avs_erase (n := n) r (by simpa using e)
    exact ⟨v, u :: v1, v2, rfl, by simp [h1], h2, .cons h h3⟩
  | _, _, _, _, .nil, e => by simp at e
theorem dna_split {K : PySem.W.Frag} {G : Rg} {H : Hp} : ∀ {v1 v2 : List V} {ds : List PyData}, DnA K G H (v1 ++ v2) ds → DnA K G H v1 (ds.take v1.length) ∧ DnA K G H v2 (ds.drop v1.length)
  | [], v2, ds, h => ⟨.nil, h⟩
  | v :: v1, v2, _, .cons h r => by
    obtain ⟨q1, q2⟩ := dna_split (v1 := v1) r
    exact ⟨.cons h q1, q2⟩
theorem argsC {K : PySem.W.Frag} {H : Hp} {v1 v2 : List V} {v : V} {ds : List PyData} {c : Cl} {fp : List Addr} (h : DnA K (fun a o => H a = some o ∧ a ∉ fp) H (v1 ++ v2) ds) {B : Hp} (hc : c.ok K (RN B) H v fp) (al : ∀ p ∈ fp, H p ≠ none) (hB : ∀ a o, B a = some o → H a = some o ∧ a ∉ fp) :
    ArgsU K H (v1 ++ v :: v2) (insC v1.length c ds) (fun i => if i = v1.length then fp else []) fp B := by
  obtain ⟨h1, h2⟩ := dna_split h
  have l1 := h1.length
  have l2 := h2.length
  have e1 : ((ds.take v1.length).map Ar.d).length = v1.length := by rw [List.length_map]; exact l1.symm
  refine ⟨?_, fun i x hx => ?_, fun i c' hc' => ?_, fun i hi => ?_, fun i p hp => ?_, al, fun i j p hi hj => ?_, fun i x hx => ?_, hB⟩
  · unfold insC
    rw [List.length_append, List.length_append, List.length_cons, List.length_cons, e1, List.length_map, ← l2]
  · unfold insC at hx
    by_cases hlt : i < v1.length
    · rw [List.getElem?_append_left (by rw [e1]; exact hlt)] at hx
      rw [List.getElem?_append_left hlt]
      exact dna_at h1 hx
    · rw [List.getElem?_append_right (by rw [e1]; omega), e1] at hx
      rw [List.getElem?_append_right (by omega)]
      cases hk : i - v1.length with
      | zero => rw [hk] at hx; cases hx
      | succ q =>
        rw [hk, List.getElem?_cons_succ] at hx
        rw [List.getElem?_cons_succ]
        exact dna_at h2 hx
  · unfold insC at hc'
    by_cases hlt : i < v1.length
    · rw [List.getElem?_append_left (by rw [e1]; exact hlt), List.getElem?_map] at hc'
      cases e : (ds.take v1.length)[i]? <;> rw [e] at hc' <;> cases hc'
    · rw [List.getElem?_append_right (by rw [e1]; omega), e1] at hc'
      cases hk : i - v1.length with
      | zero =>
        rw [hk] at hc'
        cases hc'
        have : i = v1.length := by omega
        subst this
        exact ⟨v, by simp, by rw [if_pos rfl]; exact hc⟩
      | succ q =>
        rw [hk, List.getElem?_cons_succ, List.getElem?_map] at hc'
        cases e : (ds.drop v1.length)[q]? <;> rw [e] at hc' <;> cases hc'
  · by_cases e : i = v1.length
    · subst e
      refine absurd ?_ (hi c)
      unfold insC
      rw [List.getElem?_append_right (by rw [e1]; exact Nat.le_refl _), e1, Nat.sub_self]
      rfl
    · exact if_neg e
  · by_cases e : i = v1.length
    · rw [if_pos e] at hp; exact hp
    · rw [if_neg e] at hp; cases hp
  · by_cases e : i = v1.length
    · by_cases e' : j = v1.length
      · rw [e, e']
      · rw [if_neg e'] at hj; cases hj
    · rw [if_neg e] at hi; cases hi
  · unfold insC at hx
    by_cases hlt : i < v1.length
    · rw [List.getElem?_append_left (by rw [e1]; exact hlt), List.getElem?_map] at hx
      cases e : (ds.take v1.length)[i]? <;> rw [e] at hx <;> cases hx
    · rw [List.getElem?_append_right (by rw [e1]; omega), e1] at hx
      cases hk : i - v1.length with
      | zero => rw [hk] at hx; cases hx
      | succ q =>
        rw [hk, List.getElem?_cons_succ, List.getElem?_map] at hx
        cases e : (ds.drop v1.length)[q]? <;> rw [e] at hx <;> cases hx
section
variable {X : Cx} {W : WX} {sc : Scope} {N : List Str} {x : Str} {e : Expr} {es : List Expr} {p pos : Pos} {k : DA} {dvs : List V} {dds : List PyData} {m : List Ar → R (Rs × List Sl)}
theorem callC_core {Γ : List Sl} {G : Gh} {H : Hp} {σ : St} {as : List AV} {ds : List PyData} {vs : List V} {Q : VK} {n i : Nat} {ic : Bool × Cl} (hdv : ∀ G H, DnA X.K G H dvs dds) (S : Sta X.K G H σ Γ) (av : AVs X.K G H σ vs as) (hn : pickC n as = some i) (hc : cellAt Γ i = some ic) (hd : rdDs Γ (some i) (as.eraseIdx n) = some ds) (hfl : ic.2.fl = true)
    (hp : Pst X W G H σ ((m (insC n ic.2 (ds ++ dds))).atC n Γ i ic.1) fun z G' H' => Sta X.K G' H' σ z.2 → RsOk X.K G'.N H' Q z.1) : spU X.K X.mg m (vs ++ dvs) H Q (fun cls d H => W cls d σ H) := by
  have hn' : as[n]? = some (.s i) := by
    unfold pickC at hn
    split at hn
    · cases hn; exact ‹_›
    · cases hn
  obtain ⟨v, v1, v2, rfl, hv1, hv, av2⟩ := avs_erase av hn'
  obtain ⟨v', fp, g1, g2, g3, g4, g5, g6⟩ := S.cellU i ic.1 (cellAt_ok hc)
  rw [hv] at g1
  cases g1
  have h1 : DnA X.K (fun a o => H a = some o ∧ a ∉ fp) H (v1 ++ v2) ds := rdDs_ok (i := some i) (fp := fp) S g4 (fun j x u hj hr hu => g5 j x u (fun z => hj (by rw [z])) hr hu) hd av2
  have h2 : DnA X.K (fun a o => H a = some o ∧ a ∉ fp) H (v1 ++ (v2 ++ dvs)) (ds ++ dds) := by
    rw [← List.append_assoc]
    exact h1.append (hdv _ _)
  subst hv1
  refine ⟨_, _, _, G.N, by rw [List.append_assoc, List.cons_append]; exact argsC h2 g2 g3 (fun a o h => ⟨(S.w.new a o h).1, g4 true a o h⟩), ?_⟩
  have key : ∀ H' N' F' Z c', PostU X.K H (v1 ++ v :: v2 ++ dvs) (fun i => if i = v1.length then fp else []) fp G.N H' N' Z F' → ioAt v1.length Z = some c' → ∃ G', Sta X.K G' H' σ (Γ.set i (mkS ic.1 c')) ∧ Ext G H G' H' ∧ RgLe (RN N') (rg G' true) := fun H' N' F' Z c' P hz => by
    obtain ⟨u, q1, q2⟩ := P.cel _ _ (ioAt_ok hz)
    have : u = v := by
      rw [List.append_assoc, List.getElem?_append_right (Nat.le_refl _), Nat.sub_self] at q1
      exact (Option.some.inj q1).symm
    subst this
    exact g6 H' N' (F' v1.length) c' P.keep P.pal P.t P.new q2 fun p hp => P.al _ p hp
  cases hm : m (insC v1.length ic.2 (ds ++ dds)) with
  | bad => rw [hm] at hp; exact hp
  | exc y =>
    rw [hm] at hp
    intro H' N' F' C d P k1 k2
    obtain ⟨c', hz, hp⟩ := Pst.ofO (show Pst X W G H σ ((R.ofO (ioAt v1.length y.st)).bind fun c => .exc ⟨y.cls, y.flds, Γ.set i (mkS ic.1 c)⟩) _ from hp)
    obtain ⟨G', S', e', l⟩ := key H' N' F' y.st c' P hz
    refine hp G' H' σ C d e' S' k1 ?_
    rcases k2 with ⟨a, fs, q1, q2, q3, q4⟩ | q
    · exact .inl ⟨a, fs, q1, l _ _ q2, q3, q4.mono l (TupLe.rf _)⟩
    · exact .inr q
  | val z =>
    rw [hm] at hp
    intro H' N' F' P
    obtain ⟨c', hz, hp⟩ := Pst.ofO (show Pst X W G H σ ((R.ofO (ioAt v1.length z.2)).bind fun c => .val (z.1, Γ.set i (mkS ic.1 c))) _ from hp)
    obtain ⟨G', S', e', l⟩ := key H' N' F' z.2 c' P hz
    have q := hp G' H' e' S'
    simp only at q
    cases hz : z.1 with
    | d y => rw [hz] at q; exact fun v hv => q v (hv.mono l (TupLe.rf _))
    | c y => rw [hz] at q; exact fun v H2 ⟨fp, n1, n2, n3⟩ => q v H2 ⟨fp, n1, n2, Cl.mono n3 l (fun _ _ => rfl) (TupLe.rf _)⟩
def preC (n : Nat) (dds : List PyData) (z : List AV × List Sl) : R (Nat × Bool × List Ar) := (R.ofO (pickC n z.1)).bind fun i => (R.ofO (cellAt z.2 i)).bind fun ic => (R.ofO (rdDs z.2 (some i) (z.1.eraseIdx n))).bind fun ds => (R.req ic.2.fl).bind fun _ => .val (i, ic.1, insC n ic.2 (ds ++ dds))
theorem preC_ok {n : Nat} {z : List AV × List Sl} {G : Gh} {H : Hp} {σ : St} {τ : Type} {q : Nat × Bool × List Ar → R τ} {P : τ → Gh → Hp → Prop} (h : Pst X W G H σ ((preC n dds z).bind q) P) : ∃ i ic ds, pickC n z.1 = some i ∧ cellAt z.2 i = some ic ∧ rdDs z.2 (some i) (z.1.eraseIdx n) = some ds ∧ ic.2.fl = true ∧ Pst X W G H σ (q (i, ic.1, insC n ic.2 (ds ++ dds))) P := by
  unfold preC at h
  rw [R.bind_assoc] at h
  obtain ⟨i, h1, h⟩ := Pst.ofO h
  rw [R.bind_assoc] at h
  obtain ⟨ic, h2, h⟩ := Pst.ofO h
  rw [R.bind_assoc] at h
  obtain ⟨ds, h3, h⟩ := Pst.ofO h
  rw [R.bind_assoc] at h
  obtain ⟨h4, h⟩ := Pst.req h
  exact ⟨i, ic, ds, h1, h2, h3, h4, h⟩
end
end PD
set_option Elab.async false
set_option linter.all false
set_option maxRecDepth 100000
set_option maxHeartbeats 4000000
set_option autoImplicit false
namespace PD
open PySem PySem.Spec PyProof.Rows L2
abbrev sO (w : World) : Obj := { cls := .type "set", dict := none, data := .set #[] 0 (.fresh 0 0 (!w.params.followText "set-order")) }
section
variable {P : Program} {w : World} {A : Around} {E : Value → Shared → Prop} {s : Shared}
theorem set_of_list {l : Addr} {items : Array Value} (ns : List Int) {Q : Value → Shared → Prop} (hh : A.handled = none) (hl : s.heap.IsList l items) (hit : IntsAre items.toList ns) (hb : ns.length + 1 < scanBound)
    (h : ∀ (h' : Heap) (tk c : Nat), SetR w h' s.heap.objs.size (fun j => decide (j ∈ ns)) c → c ≤ ns.length → (∀ b o, s.heap.get? b = some o → h'.get? b = some o) → Q (.ref s.heap.objs.size) { s with heap := h', toks := tk }) :
    wpAny (model P w) A (call (.type "set") [.ref l]) Q E s := by
  have z0 : items.size = ns.length := by rw [← Array.length_toList]; exact IntsAre.length hit
  obtain ⟨c, tl, z1⟩ := F.called_set.mro
  have z2 := F.called_set.made
  have z3 := F.called_set.sub
  refine wpAny_call (codeAny_of_tree ?_)
  show wpAny _ _ (callAny (.type "set") _) _ _ _
  refine wpAny_pure ⟨Code.quiet_builtin _ (by decide +kernel), codeAny_builtin F.entry_type_call ?_⟩
  rw [Around.under_plain (weight_type_call_type "set" [.ref l] []) rfl]
  have z4 := F.called_set.notType
  have z5 := F.called_set.canCreate
  have z6 := F.typeCall_set_1 (.ref l)
  repeat (any_goals (first | assumption | wp_step))
  refine codeAny_mono (code_set_led1 (.ref l) (E := E) (Q₁ := fun ob s1 => ob = .ref s.heap.objs.size ∧ s1 = { s with heap := s.heap.push (sO w) }) ⟨rfl, rfl⟩) fun r s1 hr => ?_
  cases r with
  | error e => exact hr
  | ok fl =>
    cases fl with
    | ret ob =>
      obtain ⟨rfl, rfl⟩ := hr
      have hS : (s.heap.push (sO w)).get? s.heap.objs.size = some (sO w) := Heap.get?_push_size _ rfl
      have hT : Shared.TypeIs { s with heap := s.heap.push (sO w) } (.ref s.heap.objs.size) "set" := ⟨_, hS, rfl⟩
      have z7 := F.called_set.init.lookup
      have z8 := F.called_set.init.bind (.ref s.heap.objs.size)
      repeat (any_goals (first | assumption | wp_step))
      refine codeAny_mono (codeAny_call_builtin (R := wants (fun r s2 => r = .none ∧ ∃ h' tk c, s2 = { s with heap := h', toks := tk } ∧ SetR w h' s.heap.objs.size (fun j => decide (j ∈ ns)) c ∧ c ≤ ns.length ∧ (∀ b o, s.heap.get? b = some o → h'.get? b = some o)) E)
        F.called_set.init.plain F.entry_set_init (check_set_init_1 hT ?_)) fun r2 s2 hr2 => ?_
      · obtain ⟨⟨ocls, odict, odata, oslots⟩, hol, hcl, nl, hdl⟩ := hl
        simp only at hcl hdl
        subst hcl
        subst hdl
        have ho1 : (s.heap.push (sO w)).get? l = some { cls := .type "list", dict := odict, data := .seq items nl, slots := oslots } := Heap.get?_push_of_some _ hol
        have y1 := F.sub_list_set
        have y2 := F.sub_list_frozenset
        have y3 : (Value.type "list" == Value.type "dict") = false := by decide
        have hl1 : (s.heap.push (sO w)).IsList l items := ⟨_, ho1, rfl, nl, rfl⟩
        unfold Builtin.«set.__init__» noKeywords Builtin.Frozenset.updateFrom
        generalize hPI : pyIter = PI
        wp_walk
        subst hPI
        refine wpAny_pyIter_list hl1 (wpAny_bind (wpAny_runValue ?_))
        have hlS : l < s.heap.objs.size := Heap.lt_size hol
        have y4 : A.in1.in1.in1.handled = none := by simp [hh]
        have y5 : (s.heap.push (sO w)).objs.size = s.heap.objs.size + 1 := Heap.size_push ..
        have y6 : l ≠ (s.heap.push (sO w)).objs.size := by rw [y5]; exact Nat.ne_of_lt (Nat.lt_succ_of_lt hlS)
        have y7 : s.heap.objs.size ∉ [(s.heap.push (sO w)).objs.size, l] := by rw [y5]; simp; exact fun z => Nat.ne_of_lt hlS z.symm
        have hval : ∀ (i : Nat) (v : Value), items[i]? = some v → ∃ k t, ns[i]? = some k ∧ v = .int k t := fun i v hv => by
          have hi : i < ns.length := by rw [← z0]; exact (Array.getElem?_eq_some_iff.mp hv).1
          obtain ⟨t, e⟩ := IntsAre.int_at hit i v (by rw [Array.getElem?_toList]; exact hv)
          exact ⟨ns[i], t, List.getElem?_eq_getElem hi, by rw [e]; simp [hi]⟩
        refine set_update_ints ((Walks.list y4 _ l y6 items).toS) s.heap.objs.size y7 ns z0 hb hval (items.size - 0) 0 _ (by omega) (Nat.zero_le _) ⟨⟨_, Heap.get?_push_size _ rfl, rfl, rfl⟩, hl1.push _⟩
          ⟨0, Nat.le_refl 0, setR_new_at (Heap.get?_push_of_some _ hS)⟩ ?_
        intro s' c' hm hc' hS'
        obtain ⟨h', g2, d', tk', os'⟩ := s'
        have eg : g2 = s.gens := hm.gens
        have ed : d' = s.drawn := hm.drawn
        have eo : os' = s.os := hm.os
        subst eg ed eo
        show wpAny _ _ _ _ _ _
        refine wpAny_pure ?_
        show wpAny _ _ (ret Value.none) _ _ _
        rw [z0] at hc'
        refine wpAny_pure ⟨rfl, h', tk', c', rfl, hS', hc', fun b o e => ?_⟩
        have hb0 : b < s.heap.objs.size := Heap.lt_size e
        exact hm.heap b o (by rw [y5]; simp; exact ⟨Nat.ne_of_lt hb0, Nat.ne_of_lt (Nat.lt_succ_of_lt hb0)⟩) (Heap.get?_push_of_some _ (Heap.get?_push_of_some _ e))
      · cases r2 with
        | error e => exact hr2
        | ok f2 =>
          cases f2 with
          | ret r =>
            obtain ⟨rfl, h', tk, c', rfl, q1, q2, q3⟩ := hr2
            repeat (any_goals (first | assumption | wp_step))
            exact h _ _ _ q1 q2 q3
          | _ => exact hr2.elim
    | _ => exact hr.elim
end
end PD
set_option Elab.async false
set_option linter.all false
set_option maxRecDepth 100000
set_option maxHeartbeats 4000000
set_option autoImplicit false
namespace PD
open PySem PySem.Spec PyProof.Rows L2
def insS (k : Int) : List Int → List Int
  | [] => [k]
  | x :: xs => if k < x then k :: x :: xs else if k = x then x :: xs else x :: insS k xs
def setI : List Int → List Int
  | [] => []
  | n :: ns => insS n (setI ns)
theorem insS_mem {k j : Int} : ∀ {xs : List Int}, j ∈ insS k xs ↔ j = k ∨ j ∈ xs
  | [] => by simp [insS]
  | x :: xs => by
    unfold insS
    split
    · simp
    · split
      · next h => subst h; simp
      · simp only [List.mem_cons, insS_mem (xs := xs)]
        constructor
        · rintro (h | h | h) <;> simp [h]
        · rintro (h | h | h) <;> simp [h]
theorem insS_rise {k : Int} : ∀ {xs : List Int}, xs.Pairwise (· < ·) → (insS k xs).Pairwise (· < ·)
  | [], _ => by simp [insS]
  | x :: xs, h => by
    have h' := List.pairwise_cons.mp h
    unfold insS
    split
    · next hk =>
      refine List.pairwise_cons.mpr ⟨fun y hy => ?_, h⟩
      rcases List.mem_cons.mp hy with z | z
      · omega
      · have := h'.1 y z
        omega
    · split
      · exact h
      · next h1 h2 =>
        refine List.pairwise_cons.mpr ⟨fun y hy => ?_, insS_rise h'.2⟩
        rcases insS_mem.mp hy with z | z
        · omega
        · exact h'.1 y z
theorem setI_mem {k : Int} : ∀ {ns : List Int}, k ∈ setI ns ↔ k ∈ ns
  | [] => by simp [setI]
  | n :: ns => by simp [setI, insS_mem, setI_mem (ns := ns)]
theorem setI_rise : ∀ (ns : List Int), (setI ns).Pairwise (· < ·)
  | [] => .nil
  | n :: ns => insS_rise (setI_rise ns)
theorem rise_ext : ∀ {xs ys : List Int}, xs.Pairwise (· < ·) → ys.Pairwise (· < ·) → (∀ k, k ∈ xs ↔ k ∈ ys) → xs = ys
  | [], [], _, _, _ => rfl
  | [], y :: ys, _, _, h => absurd ((h y).2 (by simp)) (by simp)
  | x :: xs, [], _, _, h => absurd ((h x).1 (by simp)) (by simp)
  | x :: xs, y :: ys, hx, hy, h => by
    have hx' := List.pairwise_cons.mp hx
    have hy' := List.pairwise_cons.mp hy
    have e : x = y := by
      rcases List.mem_cons.mp ((h x).1 (by simp)) with z | z
      · exact z
      · rcases List.mem_cons.mp ((h y).2 (by simp)) with z' | z'
        · exact z'.symm
        · have a := hx'.1 y z'
          have b := hy'.1 x z
          omega
    subst e
    rw [rise_ext hx'.2 hy'.2 fun k => ?_]
    constructor
    · intro z
      rcases List.mem_cons.mp ((h k).1 (by simp [z])) with q | q
      · have := hx'.1 k z; omega
      · exact q
    · intro z
      rcases List.mem_cons.mp ((h k).2 (by simp [z])) with q | q
      · have := hy'.1 k z; omega
      · exact q
def lt64 (ns : List Int) : Bool := decide (ns.length < 64)
theorem insS_le (x : Int) : ∀ ns : List Int, (insS x ns).length ≤ ns.length + 1
  | [] => by simp [insS]
  | y :: ns => by
    have := insS_le x ns
    unfold insS
    split
    · simp
    · split
      · simp
      · simp only [List.length_cons]; omega
theorem setI_le : ∀ ns : List Int, (setI ns).length ≤ ns.length
  | [] => by simp [setI]
  | n :: ns => by
    have h1 := setI_le ns
    have h2 := insS_le n (setI ns)
    simp only [setI, List.length_cons]
    omega
theorem setR_count {w : World} {h : Heap} {a : Addr} {ns : List Int} {n : Nat} (R : SetR w h a (fun j => decide (j ∈ ns)) n) : n = (setI ns).length := by
  obtain ⟨o, es, ep, t, _, _, _, _, nd, hm, _, _, hn, _⟩ := R
  have nd2 : (setI ns).Nodup := (setI_rise ns).imp fun h => by omega
  have pm : (es.toList.map keyOf).Perm (setI ns) := (List.perm_ext_iff_of_nodup nd nd2).mpr fun k => by rw [← hm k, setI_mem]; simp
  have := pm.length_eq
  rw [List.length_map, Array.length_toList] at this
  omega
def ltS64 (ns : List Int) : Bool := decide ((setI ns).length < 64) && decide (ns.length < 4000)
theorem ltS64_of {ns : List Int} (h : ns.length < 64) : ltS64 ns = true := by
  have := setI_le ns
  unfold ltS64
  rw [decide_eq_true (by omega), decide_eq_true (by omega)]; rfl
theorem pe_sset {X : Cx} {a : Expr} {ta : TE} {p p2 q pos : Pos} (hc : X.calm = true) (hg : Gl X "sorted") (hm : X.mg "sorted" = none) (hg2 : Gl X "set") (hm2 : X.mg "set" = none) (ha : PE X a ta)
    (na : starEach [a] X.env = (false, eval a X.env) :: starEach [] X.env := by rfl) : PE X (.Call (.Name "sorted" p) [.Call (.Name "set" p2) [a] [] q] [] pos)
      (fun σ H Q => ta σ H fun x H1 => ∃ (l : Addr) (ns : List Int), x = .ref l ∧ (SqL X.K H1 l (ns.map V.int) ∨ SqT X.K H1 l (ns.map V.int)) ∧ ((setI ns).length < 64 ∧ ns.length < 4000) ∧ ∀ p, H1 p = none → Q (.ref p) (upd H1 p (.lst ((setI ns).map V.int)))) := by
  refine ⟨fun pins s σ H Q I h => ?_⟩
  refine Call_ (ld_blt I hg hm (show bootBuiltins "sorted" = some (.builtin "sorted") by decide +kernel) ?_)
  refine callWith_builtin1 (args_cons ?_ rfl) rfl rfl
  refine Call_ (ld_blt I hg2 hm2 boot_set ?_)
  refine callWith_type1 (args_cons (thn (ha.run pins s σ H _ I h) fun v s1 ⟨x, H1, I1, r1, q1⟩ => args_nil ?_) na) na rfl
  obtain ⟨l, ns, rfl, hq, h64, q1⟩ := q1
  cases r1
  have fin : ∀ (h' : Heap) (tk c : Nat), SetR X.w h' s1.heap.objs.size (fun j => decide (j ∈ ns)) c → c ≤ ns.length → (∀ b o, s1.heap.get? b = some o → h'.get? b = some o) →
      wpAny (model X.prog X.w) X.A (call (.builtin "sorted") [.ref s1.heap.objs.size]) (fun v s' => ∃ x H', Inv X pins σ H' s' ∧ RelV x v ∧ Q x H') X.xe { s1 with heap := h', toks := tk } := fun h' tk c R1 hc1 hk => by
    have I2 : Inv X pins σ H1 { s1 with heap := h', toks := tk } := I1.kept hk
    refine sorted_set (s := { s1 with heap := h', toks := tk }) R1 (I2.ok.hd hc) (by rw [setR_count R1]; exact h64.1) fun s' p out c ms k g o hp hg hi hs hmm hl => ?_
    have e1 : ms = setI ns := rise_ext hs (setI_rise ns) fun z => by rw [hmm z, setI_mem]; simp
    subst e1
    have hlen : ((setI ns).map V.int).length ≤ sizeLine := by rw [List.length_map, hl, sizeLine_eq]; omega
    have hn : H1 p = none := I2.hok.fresh hp
    have J : Inv X pins σ (upd H1 p (.lst ((setI ns).map V.int))) { ({ s1 with heap := h', toks := tk } : Shared) with heap := s'.heap, gens := s'.gens, drawn := s'.drawn, toks := s'.toks } :=
      I2.call (ch := []) (Un.laid k hp hn) (I2.hok.laid k hp ⟨hlen, out.toList, c, vals_of_ints hi, hg⟩) (by rw [g]; exact I2.bare) (fun _ z => nomatch z)
    have e : s' = { ({ s1 with heap := h', toks := tk } : Shared) with heap := s'.heap, gens := s'.gens, drawn := s'.drawn, toks := s'.toks } := by
      cases s'
      cases o
      rfl
    rw [e]
    exact ⟨.ref p, _, J, rfl, q1 p hn⟩
  rcases hq with hq | hq
  · obtain ⟨its, r, pl, hz⟩ := I1.list hq
    exact set_of_list ns (I1.ok.hd hc) pl.isList (by simpa using intsAre_of r) (by unfold scanBound; omega) fun h' tk c a b d => args_nil (fin h' tk c a b d)
  · obtain ⟨its, r, pl, hz⟩ := I1.tuple hq
    exact call_set_tupI ns (I1.ok.hd hc) (show s1.heap.IsTuple l its.toArray from pl) (by simpa using intsAre_of r) (by unfold scanBound; omega) fun h' tk c a b d => args_nil (fin h' tk c a b d)
end PD
set_option Elab.async false
set_option linter.all false
set_option maxRecDepth 100000
set_option maxHeartbeats 4000000
set_option autoImplicit false
namespace PD
open PySem L2
section
variable {X : Cx} {W : WX} {sc : Scope} {N : List Str} {Γ : List Sl} {e : Expr} {es : List Expr} {pos p : Pos} {α γ : Type} {ma : R α} {as : α → List AV} {Γ1 : α → List Sl}
theorem ev_callB (C : Cf0 X W sc N) {x : Str} {id : String} {r : List V → Hp → VK → Prop} {k : α → R γ} {av : γ → AV} {Γk : γ → List Sl} (hc : CallR X (.builtin id) r) (hg : glB sc x = true) (hm : X.mg x = none) (hv : bootBuiltins x = some (.builtin id)) (ha : EvA X W Γ (e :: es) ma as Γ1)
    (hk : ∀ a G H σ vs Q, Sta X.K G H σ (Γ1 a) → AVs X.K G H σ vs (as a) → Pst X W G H σ (k a) (fun z G' H' => ∀ w, Sta X.K G' H' σ (Γk z) → AVok X.K G' H' σ w (av z) → Q w H') → r vs H Q)
    (hn : x ≠ "__name__" := by decide +kernel) (hdb : (x == ("__debug__" : Str)) = false := by decide +kernel) (he : starEach (e :: es) X.env = (false, eval e X.env) :: starEach es X.env := by rfl) (hpl : (backTo pos (starEach es X.env)).any (·.1) = false := by rfl) :
    Ev X W Γ (.Call (.Name x p) (e :: es) [] pos) (ma.bind k) av Γk :=
  pe_imp (pe_callB hc (C.gl hg) hm hv ha hn hdb he hpl) fun σ H Q ⟨G, S, p⟩ => ⟨G, S, (Pst.bind p).imp fun a G1 H1 e1 p1 vs S1 h1 => hk a G1 H1 σ vs Q S1 h1 p1⟩
theorem ev_callT (C : Cf0 X W sc N) {x : Str} {T : String} {r : List V → Hp → VK → Prop} {k : α → R γ} {av : γ → AV} {Γk : γ → List Sl} (hc : CallR X (.type T) r) (hg : glB sc x = true) (hm : X.mg x = none) (hv : bootBuiltins x = some (.type T)) (ha : EvA X W Γ (e :: es) ma as Γ1)
    (hk : ∀ a G H σ vs Q, Sta X.K G H σ (Γ1 a) → AVs X.K G H σ vs (as a) → Pst X W G H σ (k a) (fun z G' H' => ∀ w, Sta X.K G' H' σ (Γk z) → AVok X.K G' H' σ w (av z) → Q w H') → r vs H Q)
    (hn : x ≠ "__name__" := by decide +kernel) (hdb : (x == ("__debug__" : Str)) = false := by decide +kernel) (he : starEach (e :: es) X.env = (false, eval e X.env) :: starEach es X.env := by rfl) (hpl : (backTo pos (starEach es X.env)).any (·.1) = false := by rfl) :
    Ev X W Γ (.Call (.Name x p) (e :: es) [] pos) (ma.bind k) av Γk :=
  pe_imp (pe_callTy hc (C.gl hg) hm hv ha hn hdb he hpl) fun σ H Q ⟨G, S, p⟩ => ⟨G, S, (Pst.bind p).imp fun a G1 H1 e1 p1 vs S1 h1 => hk a G1 H1 σ vs Q S1 h1 p1⟩
theorem evf_callT (C : Cf0 X W sc N) {x : Str} {T : String} {r : List V → Hp → VK → Prop} {k : α → R γ} {ds : γ → List PyData} {Γk : γ → List Sl} (hc : CallR X (.type T) r) (hg : glB sc x = true) (hm : X.mg x = none) (hv : bootBuiltins x = some (.type T)) (ha : EvA X W Γ (e :: es) ma as Γ1)
    (hk : ∀ a G H σ vs Q, Sta X.K G H σ (Γ1 a) → AVs X.K G H σ vs (as a) → Pst X W G H σ (k a) (fun z G' H' => ∀ q ws, Sta X.K G' H' σ (Γk z) → H' q = none → DnA X.K (rg G' true) H' ws (ds z) → Q (.ref q) (upd H' q (.lst ws))) → r vs H Q)
    (hn : x ≠ "__name__" := by decide +kernel) (hdb : (x == ("__debug__" : Str)) = false := by decide +kernel) (he : starEach (e :: es) X.env = (false, eval e X.env) :: starEach es X.env := by rfl) (hpl : (backTo pos (starEach es X.env)).any (·.1) = false := by rfl) :
    EvF X W Γ (.Call (.Name x p) (e :: es) [] pos) (ma.bind k) ds Γk :=
  pe_imp (pe_callTy hc (C.gl hg) hm hv ha hn hdb he hpl) fun σ H Q ⟨G, S, p⟩ => ⟨G, S, (Pst.bind p).imp fun a G1 H1 e1 p1 vs S1 h1 => hk a G1 H1 σ vs Q S1 h1 p1⟩
end
def intsOf : List PyData → Option (List Int)
  | [] => some []
  | .int i :: ds => (intsOf ds).map (i :: ·)
  | _ => none
theorem intsOf_eq : ∀ {ds : List PyData} {ns : List Int}, intsOf ds = some ns → ds = ns.map PyData.int
  | [], _, h => by cases h; rfl
  | .int i :: ds, ns, h => by
    unfold intsOf at h
    cases e : intsOf ds with
    | none => rw [e] at h; cases h
    | some ms => rw [e] at h; cases h; rw [intsOf_eq e]; rfl
  | .none :: _, _, h => by cases h
  | .bool _ :: _, _, h => by cases h
  | .str _ :: _, _, h => by cases h
  | .list _ :: _, _, h => by cases h
  | .tuple _ :: _, _, h => by cases h
  | .dict _ :: _, _, h => by cases h
theorem intsOf_map : ∀ ns : List Int, intsOf (ns.map PyData.int) = some ns
  | [] => rfl
  | n :: ns => by simp [intsOf, intsOf_map ns]
def boolsOf : List PyData → Option (List Bool)
  | [] => some []
  | .bool i :: ds => (boolsOf ds).map (i :: ·)
  | _ => none
theorem boolsOf_eq : ∀ {ds : List PyData} {ns : List Bool}, boolsOf ds = some ns → ds = ns.map PyData.bool
  | [], _, h => by cases h; rfl
  | .bool i :: ds, ns, h => by
    unfold boolsOf at h
    cases e : boolsOf ds with
    | none => rw [e] at h; cases h
    | some ms => rw [e] at h; cases h; rw [boolsOf_eq e]; rfl
  | .none :: _, _, h => by cases h
  | .int _ :: _, _, h => by cases h
  | .str _ :: _, _, h => by cases h
  | .list _ :: _, _, h => by cases h
  | .tuple _ :: _, _, h => by cases h
  | .dict _ :: _, _, h => by cases h
section
variable {X : Cx} {W : WX} {sc : Scope} {N : List Str} {a b c e : Expr} {es : List Expr} {pos p : Pos} {f g : DF} {k : DA}
theorem callR_or {v : Value} {r1 r2 : List V → Hp → VK → Prop} (h1 : CallR X v r1) (h2 : CallR X v r2) : CallR X v (fun vs H Q => r1 vs H Q ∨ r2 vs H Q) := fun pins s σ H xs us Q I rv z => z.elim (h1 pins s σ H xs us Q I rv) (h2 pins s σ H xs us Q I rv)
def dB (q : List Sl → List AV → R AV) (k : DA) : DF := fun Γ => (k Γ).bind fun z => (q z.2 z.1).bind fun y => .val (y, z.2)
theorem ce_bB (C : Cf0 X W sc N) {x : Str} {id : String} {r : List V → Hp → VK → Prop} (q : List Sl → List AV → R AV) (hc : CallR X (.builtin id) r) (hg : glB sc x = true) (hm : X.mg x = none) (hv : bootBuiltins x = some (.builtin id)) (ha : CA X W (e :: es) k)
    (hk : ∀ as Γ2 G H σ vs Q, Sta X.K G H σ Γ2 → AVs X.K G H σ vs as → Pk X W G H σ ((q Γ2 as).bind fun y => .val (y, Γ2)) Q → r vs H Q)
    (hn : x ≠ "__name__" := by decide +kernel) (hdb : (x == ("__debug__" : Str)) = false := by decide +kernel) (he : starEach (e :: es) X.env = (false, eval e X.env) :: starEach es X.env := by rfl) (hpl : (backTo pos (starEach es X.env)).any (·.1) = false := by rfl) :
    CE X W (.Call (.Name x p) (e :: es) [] pos) (dB q k) := fun Γ => ev_callB (k := fun z : List AV × List Sl => (q z.2 z.1).bind fun y => .val (y, z.2)) C hc hg hm hv (ha Γ) (fun z G H σ vs Q S h p => hk z.1 z.2 G H σ vs Q S h p) hn hdb he hpl
theorem ce_bT (C : Cf0 X W sc N) {x : Str} {id : String} {r : List V → Hp → VK → Prop} (q : List Sl → List AV → R AV) (hc : CallR X (.type id) r) (hg : glB sc x = true) (hm : X.mg x = none) (hv : bootBuiltins x = some (.type id)) (ha : CA X W (e :: es) k)
    (hk : ∀ as Γ2 G H σ vs Q, Sta X.K G H σ Γ2 → AVs X.K G H σ vs as → Pk X W G H σ ((q Γ2 as).bind fun y => .val (y, Γ2)) Q → r vs H Q)
    (hn : x ≠ "__name__" := by decide +kernel) (hdb : (x == ("__debug__" : Str)) = false := by decide +kernel) (he : starEach (e :: es) X.env = (false, eval e X.env) :: starEach es X.env := by rfl) (hpl : (backTo pos (starEach es X.env)).any (·.1) = false := by rfl) :
    CE X W (.Call (.Name x p) (e :: es) [] pos) (dB q k) := fun Γ => ev_callT (k := fun z : List AV × List Sl => (q z.2 z.1).bind fun y => .val (y, z.2)) C hc hg hm hv (ha Γ) (fun z G H σ vs Q S h p => hk z.1 z.2 G H σ vs Q S h p) hn hdb he hpl
def Pn (X : Cx) (W : WX) (G : Gh) (H : Hp) (σ : St) (m : R (List PyData × List Sl)) (Q : VK) : Prop := Pst X W G H σ m fun z G' H' => ∀ q ws, Sta X.K G' H' σ z.2 → H' q = none → DnA X.K (rg G' true) H' ws z.1 → Q (.ref q) (upd H' q (.lst ws))
def dBN (q : List Sl → List AV → R (List PyData)) (k : DA) : DN := fun Γ => (k Γ).bind fun z => (q z.2 z.1).bind fun y => .val (y, z.2)
theorem cn_bT (C : Cf0 X W sc N) {x : Str} {id : String} {r : List V → Hp → VK → Prop} (q : List Sl → List AV → R (List PyData)) (hc : CallR X (.type id) r) (hg : glB sc x = true) (hm : X.mg x = none) (hv : bootBuiltins x = some (.type id)) (ha : CA X W (e :: es) k)
    (hk : ∀ as Γ2 G H σ vs Q, Sta X.K G H σ Γ2 → AVs X.K G H σ vs as → Pn X W G H σ ((q Γ2 as).bind fun y => .val (y, Γ2)) Q → r vs H Q)
    (hn : x ≠ "__name__" := by decide +kernel) (hdb : (x == ("__debug__" : Str)) = false := by decide +kernel) (he : starEach (e :: es) X.env = (false, eval e X.env) :: starEach es X.env := by rfl) (hpl : (backTo pos (starEach es X.env)).any (·.1) = false := by rfl) :
    CN X W (.Call (.Name x p) (e :: es) [] pos) (dBN q k) := fun Γ => evf_callT (k := fun z : List AV × List Sl => (q z.2 z.1).bind fun y => .val (y, z.2)) C hc hg hm hv (ha Γ) (fun z G H σ vs Q S h p => hk z.1 z.2 G H σ vs Q S h p) hn hdb he hpl
theorem Pn.v {G : Gh} {H : Hp} {σ : St} {ds : List PyData} {Γ : List Sl} {Q : VK} (h : Pn X W G H σ (.val (ds, Γ)) Q) (S : Sta X.K G H σ Γ) {q : Addr} {ws : List V} (hq : H q = none) (hd : DnA X.K (rg G true) H ws ds) : Q (.ref q) (upd H q (.lst ws)) := h G H (Ext.rf S.w) q ws S hq hd
def kLen (Γ : List Sl) : List AV → R AV
  | [x] => match rdD Γ x with
    | some (.list ds) => .val (.d true (.int (ds.length : Nat)))
    | some (.tuple ds) => .val (.d true (.int (ds.length : Nat)))
    | some (.str z) => gq (decide (z.length ≤ sizeLine)) (.d true (.int (z.length : Nat)))
    | _ => .bad
  | _ => .bad
theorem ce_len (C : Cf0 X W sc N) (hg : glB sc "len" = true) (hm : X.mg "len" = none) (ha : CA X W [e] k) (he : starEach [e] X.env = (false, eval e X.env) :: starEach [] X.env := by rfl) : CE X W (.Call (.Name "len" p) [e] [] pos) (dB kLen k) :=
  ce_bB C kLen (callR_or call_len_seq call_len_str) hg hm PySem.boot_len ha (fun as Γ2 G H σ vs Q S h q => by
    unfold kLen at q
    split at q
    · obtain ⟨v, rfl, hv⟩ := avs_one h
      split at q
      · rename_i ds hd
        obtain ⟨l, xs, rfl, g1, g2⟩ := dn_list ((rdD_ok hd).ok S hv)
        refine .inl ⟨l, xs, rfl, .inl g1.sq, Pk.v q S ?_⟩
        rw [g2.length]
        exact .int _
      · rename_i ds hd
        obtain ⟨l, xs, rfl, g1, g2⟩ := dn_tuple ((rdD_ok hd).ok S hv)
        refine .inl ⟨l, xs, rfl, .inr g1, Pk.v q S ?_⟩
        rw [g2.length]
        exact .int _
      · rename_i z hd
        rcases gq_cases (decide (z.length ≤ sizeLine)) (AV.d true (.int (z.length : Nat))) with e | ⟨hc, e⟩
        · rw [e] at q; exact q.elim
        · rw [e] at q
          exact .inr ⟨z, by rw [dn_str ((rdD_ok hd).ok S hv)], of_decide_eq_true hc, Pk.v q S (.int _)⟩
      · exact q.elim
    · exact q.elim) (by decide +kernel) (by decide +kernel) he
def kMax2 (_ : List Sl) : List AV → R AV
  | [.d _ (.int i), .d _ (.int j)] => .val (.d true (.int (max2 i j)))
  | _ => .bad
def kMin2 (_ : List Sl) : List AV → R AV
  | [.d _ (.int i), .d _ (.int j)] => .val (.d true (.int (min2 i j)))
  | _ => .bad
theorem ce_max2 (C : Cf X W sc N) (hg : glB sc "max" = true) (hm : X.mg "max" = none) (ha : CA X W (e :: es) k) (he : starEach (e :: es) X.env = (false, eval e X.env) :: starEach es X.env := by rfl) (hpl : (backTo pos (starEach es X.env)).any (·.1) = false := by rfl) : CE X W (.Call (.Name "max" p) (e :: es) [] pos) (dB kMax2 k) :=
  ce_bB C.toCf0 kMax2 (call_max2 C.calm) hg hm PyProof.Rows.boot_max ha (fun as Γ2 G H σ vs Q S h q => by
    unfold kMax2 at q
    split at q
    · obtain ⟨v, u, rfl, q1, q2⟩ := avs_two h
      exact ⟨_, _, by rw [dn_int q1, dn_int q2], Pk.v q S (.int _)⟩
    · exact q.elim) (by decide +kernel) (by decide +kernel) he hpl
theorem ce_min2 (C : Cf X W sc N) (hg : glB sc "min" = true) (hm : X.mg "min" = none) (ha : CA X W (e :: es) k) (he : starEach (e :: es) X.env = (false, eval e X.env) :: starEach es X.env := by rfl) (hpl : (backTo pos (starEach es X.env)).any (·.1) = false := by rfl) : CE X W (.Call (.Name "min" p) (e :: es) [] pos) (dB kMin2 k) :=
  ce_bB C.toCf0 kMin2 (call_min2 C.calm) hg hm (by decide +kernel) ha (fun as Γ2 G H σ vs Q S h q => by
    unfold kMin2 at q
    split at q
    · obtain ⟨v, u, rfl, q1, q2⟩ := avs_two h
      exact ⟨_, _, by rw [dn_int q1, dn_int q2], Pk.v q S (.int _)⟩
    · exact q.elim) (by decide +kernel) (by decide +kernel) he hpl
theorem ofO_cases {α β : Type} {o : Option α} {k : α → R β} : (∃ y, o = some y ∧ (R.ofO o).bind k = k y) ∨ (R.ofO o).bind k = .bad := by
  cases o with
  | none => exact .inr rfl
  | some y => exact .inl ⟨y, rfl, rfl⟩
def rdBools (Γ : List Sl) (x : AV) : Option (List Bool) := match rdD Γ x with
  | some (.list ds) => boolsOf ds
  | _ => none
theorem rdBools_ok {G : Gh} {H : Hp} {σ : St} {Γ : List Sl} {x : AV} {v : V} {ns : List Bool} (S : Sta X.K G H σ Γ) (hv : AVok X.K G H σ v x) (h : rdBools Γ x = some ns) : ∃ l, v = .ref l ∧ SqL X.K H l (ns.map V.bl) := by
  unfold rdBools at h
  split at h
  · rename_i ds hd
    obtain ⟨l, xs, rfl, g1, g2⟩ := dn_list ((rdD_ok hd).ok S hv)
    rw [boolsOf_eq h] at g2
    rw [dna_bools g2] at g1
    exact ⟨l, rfl, g1.sq⟩
  · cases h
def kAll (Γ : List Sl) : List AV → R AV
  | [x] => (R.ofO (rdBools Γ x)).bind fun ns => .val (.d true (.bool (ns.all id)))
  | _ => .bad
theorem ce_all (C : Cf X W sc N) (hg : glB sc "all" = true) (hm : X.mg "all" = none) (ha : CA X W [e] k) (he : starEach [e] X.env = (false, eval e X.env) :: starEach [] X.env := by rfl) : CE X W (.Call (.Name "all" p) [e] [] pos) (dB kAll k) :=
  ce_bB C.toCf0 kAll (cr_all C.calm) hg hm PyProof.Rows.boot_all ha (fun as Γ2 G H σ vs Q S h q => by
    unfold kAll at q
    split at q
    · rename_i x
      obtain ⟨v, rfl, hv⟩ := avs_one h
      rcases ofO_cases (o := rdBools Γ2 x) (k := fun ns => R.val (AV.d true (.bool (ns.all id)))) with ⟨ns, e1, e2⟩ | e2
      · rw [e2] at q
        obtain ⟨l, rfl, hs⟩ := rdBools_ok S hv e1
        exact ⟨l, ns, rfl, hs, Pk.v q S (.bl _)⟩
      · rw [e2] at q; exact q.elim
    · exact q.elim) (by decide +kernel) (by decide +kernel) he
def kInt (_ : List Sl) : List AV → R AV
  | [.d _ (.int i)] => .val (.d true (.int i))
  | [.d _ (.bool z)] => .val (.d true (.int (b2n z)))
  | _ => .bad
theorem ce_intc (C : Cf0 X W sc N) (hg : glB sc "int" = true) (hm : X.mg "int" = none) (ha : CA X W [e] k) (he : starEach [e] X.env = (false, eval e X.env) :: starEach [] X.env := by rfl) : CE X W (.Call (.Name "int" p) [e] [] pos) (dB kInt k) :=
  ce_bT C kInt call_int1 hg hm PyProof.Rows.boot_int ha (fun as Γ2 G H σ vs Q S h q => by
    unfold kInt at q
    split at q
    · obtain ⟨v, rfl, hv⟩ := avs_one h
      exact .inl ⟨_, by rw [dn_int hv], Pk.v q S (.int _)⟩
    · obtain ⟨v, rfl, hv⟩ := avs_one h
      exact .inr ⟨_, by rw [dn_bool hv], Pk.v q S (.int _)⟩
    · exact q.elim) (by decide +kernel) (by decide +kernel) he
def rdSeq (Γ : List Sl) : AV → Option (List PyData × Bool)
  | .d fr (.list ds) => some (ds, fr)
  | .d fr (.tuple ds) => some (ds, fr)
  | .s i => match rdD Γ (.s i) with
    | some (.list ds) => some (ds, true)
    | _ => none
  | _ => none
theorem rdSeq_ok {G : Gh} {H : Hp} {σ : St} {Γ : List Sl} {x : AV} {v : V} {z : List PyData × Bool} (S : Sta X.K G H σ Γ) (hv : AVok X.K G H σ v x) (h : rdSeq Γ x = some z) : ∃ l xs, v = .ref l ∧ (SqL X.K H l xs ∨ H l = some (.tup xs)) ∧ DnA X.K (rg G z.2) H xs z.1 := by
  unfold rdSeq at h
  split at h
  · cases h
    obtain ⟨l, xs, rfl, g1, g2⟩ := dn_list hv
    exact ⟨l, xs, rfl, .inl (g1.mono (S.w.rgl _)).sq, g2⟩
  · cases h
    obtain ⟨l, xs, rfl, g1, g2⟩ := dn_tupleH hv
    exact ⟨l, xs, rfl, .inr g1, g2⟩
  · split at h
    · rename_i ds hd
      cases h
      obtain ⟨l, xs, rfl, g1, g2⟩ := S.slotL hd hv
      exact ⟨l, xs, rfl, .inl (SqL.of g1), g2⟩
    · cases h
  · cases h
def kTuple (Γ : List Sl) : List AV → R AV
  | [x] => (R.ofO (rdSeq Γ x)).bind fun z => .val (.d z.2 (.tuple z.1))
  | _ => .bad
theorem ce_tuple (C : Cf0 X W sc N) (hg : glB sc "tuple" = true) (hm : X.mg "tuple" = none) (ha : CA X W [e] k) (he : starEach [e] X.env = (false, eval e X.env) :: starEach [] X.env := by rfl) : CE X W (.Call (.Name "tuple" p) [e] [] pos) (dB kTuple k) :=
  ce_bT C kTuple call_tuple_of hg hm PyProof.Rows.boot_tuple ha (fun as Γ2 G H σ vs Q S h q => by
    unfold kTuple at q
    split at q
    · rename_i x
      obtain ⟨v, rfl, hv⟩ := avs_one h
      rcases ofO_cases (o := rdSeq Γ2 x) (k := fun z => R.val (AV.d z.2 (.tuple z.1))) with ⟨z, e1, e2⟩ | e2
      · rw [e2] at q
        obtain ⟨l, xs, rfl, hs, hd⟩ := rdSeq_ok S hv e1
        refine ⟨l, xs, rfl, hs.imp (fun hs => ⟨hs, fun l' hl => ?_⟩) fun hs => ⟨SqT.of hs, Pk.v q S (.tup hs hd)⟩⟩
        obtain ⟨G2, S2, e2, h2⟩ := S.newTup hl hd
        exact Pk.v' q e2 S2 h2
      · rw [e2] at q; exact q.elim
    · exact q.elim) (by decide +kernel) (by decide +kernel) he
def kList (Γ : List Sl) : List AV → R (List PyData)
  | [x] => (R.ofO (rdSeq Γ x)).bind fun z => gq (z.2 || flat.flatA z.1) z.1
  | _ => .bad
theorem cn_list (C : Cf0 X W sc N) (hg : glB sc "list" = true) (hm : X.mg "list" = none) (ha : CA X W [e] k) (he : starEach [e] X.env = (false, eval e X.env) :: starEach [] X.env := by rfl) : CN X W (.Call (.Name "list" p) [e] [] pos) (dBN kList k) :=
  cn_bT C kList call_list_of hg hm PyProof.Rows.boot_list ha (fun as Γ2 G H σ vs Q S h q => by
    unfold kList at q
    split at q
    · rename_i x
      obtain ⟨v, rfl, hv⟩ := avs_one h
      rcases ofO_cases (o := rdSeq Γ2 x) (k := fun z => gq (z.2 || flat.flatA z.1) z.1) with ⟨z, e1, e2⟩ | e2
      · rw [e2] at q
        obtain ⟨l, xs, rfl, hs, hd⟩ := rdSeq_ok S hv e1
        rcases gq_cases (z.2 || flat.flatA z.1) z.1 with e | ⟨hc, e⟩
        · rw [e] at q; exact q.elim
        · rw [e] at q
          refine ⟨l, xs, rfl, hs.imp id SqT.of, fun l' hl => Pn.v q S hl ?_⟩
          obtain ⟨ds, fr⟩ := z
          cases fr with
          | true => exact hd
          | false => exact hd.free (by simpa using hc)
      · rw [e2] at q; exact q.elim
    · exact q.elim) (by decide +kernel) (by decide +kernel) he
def kSset (Γ : List Sl) (x : AV) : R (List PyData) := match rdSeq Γ x with
  | some z => (R.ofO (intsOf z.1)).bind fun ns => gq (ltS64 ns) ((setI ns).map PyData.int)
  | none => .bad
def dSset (f : DF) : DN := fun Γ => (f Γ).bind fun z => (kSset z.2 z.1).bind fun y => .val (y, z.2)
theorem cn_sset (C : Cf X W sc N) {p2 q2 : Pos} (hg : glB sc "sorted" = true) (hm : X.mg "sorted" = none) (hg2 : glB sc "set" = true) (hm2 : X.mg "set" = none) (ha : CE X W a f) (na : starEach [a] X.env = (false, eval a X.env) :: starEach [] X.env := by rfl) : CN X W (.Call (.Name "sorted" p) [.Call (.Name "set" p2) [a] [] q2] [] pos) (dSset f) := fun Γ =>
  pe_imp (pe_sset C.calm (C.gl hg) hm (C.gl hg2) hm2 (ha Γ) na) fun σ H Q ⟨G, S, q⟩ => ⟨G, S, (Pst.bind q).imp fun x G1 H1 e1 p1 v S1 hv => by
    unfold kSset at p1
    split at p1
    · rename_i z hz
      obtain ⟨l, xs, rfl, hs, hd⟩ := rdSeq_ok S1 hv hz
      cases hi : intsOf z.1 with
      | none => rw [hi] at p1; exact p1.elim
      | some ns =>
        rw [hi] at p1
        rcases gq_cases (ltS64 ns) ((setI ns).map PyData.int) with e | ⟨hc, e⟩
        · have p1 : Pst X W G1 H1 σ ((gq (ltS64 ns) ((setI ns).map PyData.int)).bind fun y => .val (y, x.2)) _ := p1
          rw [e] at p1; exact p1.elim
        · have p1 : Pst X W G1 H1 σ ((gq (ltS64 ns) ((setI ns).map PyData.int)).bind fun y => .val (y, x.2)) _ := p1
          rw [e] at p1
          rw [intsOf_eq hi] at hd
          rw [dna_ints hd] at hs
          exact ⟨l, ns, rfl, hs.imp id SqT.of, (by unfold ltS64 at hc; rw [Bool.and_eq_true] at hc; exact ⟨of_decide_eq_true hc.1, of_decide_eq_true hc.2⟩), fun q hq => p1 G1 H1 (Ext.rf S1.w) q _ S1 hq (ints_dna _)⟩
    · exact p1.elim⟩
inductive Tn where
  | int | bool | str | list | tuple | dict
def Tn.nm : Tn → String
  | .int => "int"
  | .bool => "bool"
  | .str => "str"
  | .list => "list"
  | .tuple => "tuple"
  | .dict => "dict"
def tyIs : PyData → Tn → Bool
  | .bool _, .int => true
  | .bool _, .bool => true
  | .int _, .int => true
  | .str _, .str => true
  | .list _, .list => true
  | .tuple _, .tuple => true
  | .dict _, .dict => true
  | _, _ => false
theorem tyIs_kit (d : PyData) (t : Tn) : kitB (pyTy d) t.nm = some (tyIs d t) := by
  cases d <;> cases t <;> simp only [pyTy, Tn.nm, tyIs] <;> decide +kernel
def noDct : PyData → Bool
  | .dict _ => false
  | _ => true
theorem dn_ty {K : PySem.W.Frag} {H : Hp} {v : V} {d : PyData} (h : Dn K (RgH H) H v d) (hn : noDct d = true) : TyX K H v (.type (pyTy d)) := by
  cases h with
  | non => exact .base .non
  | bl b => exact .base (.bl b)
  | int i => exact .base (.int i)
  | str x => exact .base (.str x)
  | lst h _ =>
    rcases h.sq with (h | ⟨o, h⟩) | ⟨o, its, n, h1, h2, _⟩
    · exact .base (.lst h)
    · exact .base (.frz h)
    · exact .kList h1 h2
  | tup h _ => exact .base (.tup h)
  | dct _ _ _ => cases hn
  | exc _ _ _ _ => cases hn
  | exc0 _ => cases hn
  | ins _ _ _ _ => cases hn
  | dcu _ _ _ => cases hn
def dIsi (ts : List Tn) (f : DF) : DF := fun Γ => (f Γ).bind fun x => match rdD x.2 x.1 with
  | some d => gq (noDct d) (.d true (.bool (ts.any fun t => tyIs d t)), x.2)
  | none => .bad
theorem ce_isi (C : Cf0 X W sc N) (t : Tn) {T : Str} {p2 : Pos} (hg : glB sc "isinstance" = true) (hm : X.mg "isinstance" = none) (hgT : glB sc T = true) (hmT : X.mg T = none) (hv : bootBuiltins T = some (.type t.nm)) (ha : CE X W e f)
    (hnT : T ≠ "__name__" := by decide +kernel) (hdT : (T == ("__debug__" : Str)) = false := by decide +kernel) (hst : starEach [e, .Name T p2] X.env = (false, eval e X.env) :: starEach [.Name T p2] X.env := by rfl) (hst2 : starEach [.Name T p2] X.env = (false, eval (.Name T p2) X.env) :: starEach [] X.env := by rfl) :
    CE X W (.Call (.Name "isinstance" p) [e, .Name T p2] [] pos) (dIsi [t] f) := fun Γ => by
  have hT : PE X (.Name T p2) (tC (.ty t.nm)) := pe_bltn (C.gl hgT) hmT hv rfl hnT hdT
  refine pe_imp (pe_callB call_isi (C.gl hg) hm PyProof.Rows.boot_isinstance (pa_cons (ha Γ) (pa_cons hT pa_nil hst2) hst) (by decide +kernel) (by decide +kernel) hst (by rw [hst2]; rfl)) fun σ H Q ⟨G, S, q⟩ => ⟨G, S, (Pst.bind q).imp fun x G1 H1 e1 p1 v S1 hv => ?_⟩
  split at p1
  · rename_i d hd
    obtain ⟨hn, p1⟩ := Pst.gq S1.w p1
    refine ⟨v, .ty t.nm, .type (pyTy d), .type t.nm, tyIs d t, rfl, .ty t.nm, dn_ty ((rdD_ok hd).ok S1 hv) hn, kit_ty (tyIs_kit d t), ?_⟩
    have := p1 (.bl (tyIs d t)) S1 (by show Dn _ _ _ _ (.bool (tyIs d t || false)); rw [Bool.or_false]; exact .bl _)
    exact this
  · exact p1.elim
end
end PD
set_option Elab.async false
set_option linter.all false
set_option maxRecDepth 100000
set_option maxHeartbeats 4000000
set_option autoImplicit false
namespace PD
open PySem L2
def R.nox {α : Type} : R α → R α
  | .exc _ => .bad
  | m => m
abbrev WF : WX := fun _ _ _ _ => False
section
variable {X : Cx} {W : WX} {sc : Scope} {N : List Str} {Γ : List Sl}
theorem Cf.blk (C : Cf X W sc N) {s : Shared} {H : Hp} {scope : Scope} {cl : List (Str × Addr)} {c : Addr} {fp : List Addr} : Cf (X.blk s H scope (compEnvC scope cl c X.env) fp) WF (relS scope sc) N := by
  refine ⟨⟨?_, C.hN, C.nd, takes0, C.hu, PassesOwn.never, C.hu2⟩, C.calm⟩
  show relabel scope X.env = relS scope sc
  rw [← C.hsc]
  rfl
theorem Clee.blk {x : Str} {dvs : List V} {sp : Sp} (h : Clee X x dvs sp) {s : Shared} {H : Hp} {scope : Scope} {ce : Env} {fp : List Addr} : Clee (X.blk s H scope ce fp) x dvs sp := h
theorem Sta.wipeS {K : PySem.W.Frag} {G : Gh} {H : Hp} {σ : St} {Γ : List Sl} (S : Sta K G H σ Γ) : ∀ vs : List Nat, Sta K G H (L2.wipe σ vs) (wipeG Γ vs)
  | [] => S
  | v :: vs => (Sta.wipeS S vs).blank v none
theorem wipeG_at {Γ : List Sl} : ∀ {vs : List Nat} {i : Nat}, i ∈ vs → i < Γ.length → (wipeG Γ vs)[i]? = some .un
  | v :: vs, i, h, hl => by
    have hlen : ∀ ws : List Nat, (wipeG Γ ws).length = Γ.length := fun ws => by
      induction ws with
      | nil => rfl
      | cons w ws ih => simp [wipeG, ih]
    by_cases q : i = v
    · subst q
      exact List.getElem?_set_self (by rw [hlen]; exact hl)
    · have h' : i ∈ vs := by
        rcases List.mem_cons.mp h with z | z
        · exact absurd z q
        · exact z
      show ((wipeG Γ vs).set v .un)[i]? = some .un
      rw [List.getElem?_set_ne (Ne.symm q)]
      exact wipeG_at h' hl
theorem wipe_eq {σ σ' : St} {vs ts : List Nat} (hl : σ'.length = σ.length) (h : ∀ j, j ∉ ts → σ'[j]? = σ[j]?) (hs : ∀ j ∈ ts, j ∈ vs) : wipe σ' vs = wipe σ vs := by
  have at_ : ∀ (ρ : St) (ws : List Nat) (j : Nat), j ∈ ws → j < ρ.length → (wipe ρ ws)[j]? = some none := fun ρ ws => by
    induction ws with
    | nil => intro j hj; cases hj
    | cons w ws ih =>
      intro j hj hl
      by_cases q : j = w
      · subst q
        exact List.getElem?_set_self (by rw [wipe_length]; exact hl)
      · show ((wipe ρ ws).set w none)[j]? = some none
        rw [List.getElem?_set_ne (Ne.symm q)]
        refine ih j ?_ hl
        rcases List.mem_cons.mp hj with z | z
        · exact absurd z q
        · exact z
  refine List.ext_getElem? fun j => ?_
  by_cases hj : j ∈ vs
  · by_cases hlt : j < σ.length
    · rw [at_ σ' vs j hj (by rw [hl]; exact hlt), at_ σ vs j hj hlt]
    · rw [List.getElem?_eq_none (by rw [wipe_length, hl]; omega), List.getElem?_eq_none (by rw [wipe_length]; omega)]
  · rw [wipe_out hj, wipe_out hj]
    exact h j fun z => hj (hs j z)
def compU (vs : List Nat) (g : DG) (fr : Bool) (t : DT) (e : DF) : List PyData → List Sl → R (List PyData × List Sl)
  | [], Γ => .val ([], Γ)
  | d :: ds, Γ => (R.ofO (g fr d Γ)).bind fun Γ1 => (t Γ1).nox.bind fun x => if x.1 then (e x.2).nox.bind fun y => (R.ofO (avD y.1)).bind fun o => (compU vs g fr t e ds (wipeG y.2 vs)).bind fun r => .val (o :: r.1, r.2) else compU vs g fr t e ds (wipeG x.2 vs)
theorem compU_cons (vs : List Nat) (g : DG) (fr : Bool) (t : DT) (e : DF) (d : PyData) (ds : List PyData) (Γ : List Sl) : compU vs g fr t e (d :: ds) Γ = (R.ofO (g fr d Γ)).bind fun Γ1 => (t Γ1).nox.bind fun x => if x.1 then (e x.2).nox.bind fun y => (R.ofO (avD y.1)).bind fun o => (compU vs g fr t e ds (wipeG y.2 vs)).bind fun r => .val (o :: r.1, r.2) else compU vs g fr t e ds (wipeG x.2 vs) := rfl
def nComp (vs : List Nat) (g : DG) (it : DI) (t : DT) (e : DF) : DN := fun Γ => (it Γ).bind fun z => (R.req (szB z.1.1)).bind fun _ => compU vs g z.1.2 t e z.1.1 (wipeG z.2 vs)
def CTs (X : Cx) (W : WX) (es : List Expr) (f : DT) : Prop := ∀ Γ, PTs X es (rdT X W Γ (f Γ) Prod.fst Prod.snd)
theorem cts_one {e : Expr} {t : DT} (h : CT X W e t) : CTs X W [e] t := fun Γ => pts_one (h Γ)
def tYes : DT := fun Γ => .val (true, Γ)
theorem cts_nil : CTs X W [] tYes := fun Γ => ⟨fun pins s' σ H Q I ⟨G, S, p⟩ => pts_nil.run pins s' σ H Q I (p G H (Ext.rf S.w) S)⟩
variable {tg iter elt : Expr} {ifs : List Expr} {scope : Scope} {own : List (Str × Nat)} {pos : Pos} {it : DI} {g : DG} {t : DT} {e : DF} {ts : List Nat}
theorem comp_rdU (hts : ∀ j ∈ ts, j ∈ own.map (·.2)) {σ : St} {H : Hp} {Q : VK} (h : rdF X W Γ (nComp (own.map (·.2)) g it t e Γ) Prod.fst Prod.snd σ H Q) :
    tLc (rdIU X W Γ (it Γ)) (fun v σ H Q => ∃ G Γ fr d Γ', Sta X.K G H σ Γ ∧ Dn X.K (rg G fr) H v d ∧ g fr d Γ = some Γ' ∧ ∀ σ', σ'.length = σ.length → (∀ j, j ∉ ts → σ'[j]? = σ[j]?) → Sta X.K G H σ' Γ' → Q σ' H)
      (fun σ H Q => ∃ Γ1, rdT X WF Γ1 (t Γ1) Prod.fst Prod.snd σ H Q) (fun σ H Q => ∃ Γ1, rdE X WF Γ1 (e Γ1) Prod.fst Prod.snd σ H Q) (own.map (·.2)) σ H Q := by
  obtain ⟨G, S0, p⟩ := h
  refine ⟨G, S0, (Pst.bind p).imp fun r G1 H1 e1 p1 J S1 I D hD => ?_⟩
  generalize hvs : own.map (·.2) = vs at *
  obtain ⟨⟨items, fr⟩, Γ1⟩ := r
  obtain ⟨hsz, p1⟩ := Pst.req p1
  simp only at hsz p1 I S1
  have hsz : items.length ≤ sizeLine := of_decide_eq_true hsz
  have hE0 : G1.E D = none := by
    cases q : G1.E D with
    | none => rfl
    | some u => rw [(S1.w.ex D u q).1] at hD; cases hD
  have hID : ∀ j, G1.I j ≠ some (.ref D) := fun j h => by
    rcases S1.w.iv j D h with z | z | ⟨xs, z⟩
    · exact S1.w.pal D z hD
    · exact z hE0
    · rw [hD] at z; cases z
  have hww : L2.wipe (L2.wipe σ vs) vs = L2.wipe σ vs := wipe_eq (ts := vs) (wipe_length ..) (fun j hj => wipe_out hj) (fun j hj => hj)
  have nol : ∀ vs' : List V, (∀ xs, HO.lst vs' ≠ .tup xs) ∧ ∀ x y, HO.lst vs' ≠ .frz x y := fun vs' => ⟨fun _ z => (by cases z), fun _ _ z => (by cases z)⟩
  let cu : List PyData → List Sl → R (List PyData × List Sl) := compU vs g fr t e
  let body : Nat → Hp → Prop := fun i H2 => i ≤ items.length ∧ ∃ G2 s0 vacc bs, Sta X.K G2 H2 (L2.wipe σ vs) (wipeG s0 vs) ∧ Le G1 H1 G2 H2 ∧ G2.E = upd G1.E D (.lst vacc) ∧ G2.I = G1.I ∧ DnA X.K (rg G2 true) H2 vacc bs ∧ bs.length ≤ i ∧
    compU vs g fr t e items (wipeG Γ1 vs) = (compU vs g fr t e (items.drop i) (wipeG s0 vs)).bind fun z => .val (bs ++ z.1, z.2)
  refine ⟨fun i m H2 => m = items.length - i ∧ body i H2, ⟨_, rfl, Nat.zero_le _, ?_⟩, ?_⟩
  · have Sw : Sta X.K G1 H1 (L2.wipe σ vs) (wipeG Γ1 vs) := S1.wipeS vs
    obtain ⟨S2, t2⟩ := Sw.pin (o := .lst []) hD
    refine ⟨_, Γ1, [], [], S2, ⟨rfl, rfl, fun _ _ h => h, fun _ _ h => .inl h, t2, S2.w, fun a o h => by show upd G1.E D _ a = _; rw [upd_ne (fun z => by rw [z, hE0] at h; cases h)]; exact h⟩, rfl, rfl, .nil, Nat.le_refl _, ?_⟩
    rw [List.drop_zero]
    have : (fun z : List PyData × List Sl => R.val ([] ++ z.1, z.2)) = fun z => R.val z := rfl
    rw [this, R.bind_val]
  · rintro i m H2 ⟨rfl, hile, G2, s0, vacc, bs, S2, l2, hE2, hI2, d2, hbs, eq⟩
    by_cases hlt : i < items.length
    · rw [List.drop_eq_getElem_cons hlt, compU_cons, R.bind_assoc] at eq
      cases hg : g fr items[i] (wipeG s0 vs) with
      | none => rw [hg] at eq; rw [eq] at p1; exact p1.elim
      | some Γ3 =>
      rw [hg] at eq
      have eq : compU vs g fr t e items (wipeG Γ1 vs) = ((t Γ3).nox.bind fun x => if x.1 then (e x.2).nox.bind fun y => (R.ofO (avD y.1)).bind fun o => (compU vs g fr t e (items.drop (i + 1)) (wipeG y.2 vs)).bind fun r => .val (o :: r.1, r.2) else compU vs g fr t e (items.drop (i + 1)) (wipeG x.2 vs)).bind fun z => .val (bs ++ z.1, z.2) := eq
      rw [R.bind_assoc] at eq
      refine .inr ⟨I.go i G2 H2 hlt l2, body (i + 1), fun H' hb => ⟨_, (by omega), rfl, hb⟩, fun v H3 y => ?_⟩
      obtain ⟨G3, d, hd, e3, S3, dn⟩ := I.yl i G2 H2 _ _ v H3 hlt l2 S2 y
      have hx : d = items[i] := by
        rw [List.getElem?_eq_getElem hlt] at hd
        exact (Option.some.inj hd).symm
      subst hx
      refine ⟨G3, wipeG s0 vs, fr, items[i], Γ3, S3, dn, hg, fun σ2 l3 k3 S4 => ⟨(wipe_eq l3 k3 hts).trans hww, Γ3, G3, S4, ?_⟩⟩
      have hw2 : L2.wipe σ2 vs = L2.wipe σ vs := (wipe_eq l3 k3 hts).trans hww
      cases htt : t Γ3 with
      | bad => rw [htt] at eq; rw [eq] at p1; exact p1.elim
      | exc z => rw [htt] at eq; rw [eq] at p1; exact p1.elim
      | val x =>
        rw [htt] at eq
        intro G4 H4 e4 S5
        obtain ⟨b, Γ4⟩ := x
        have eq : compU vs g fr t e items (wipeG Γ1 vs) = (if b = true then (e Γ4).nox.bind fun y => (R.ofO (avD y.1)).bind fun o => (compU vs g fr t e (items.drop (i + 1)) (wipeG y.2 vs)).bind fun r => .val (o :: r.1, r.2) else compU vs g fr t e (items.drop (i + 1)) (wipeG Γ4 vs)).bind fun z => .val (bs ++ z.1, z.2) := eq
        have l4 : Le G1 H1 G4 H4 := (l2.tr e3.le).tr e4.le
        have hE4 : G4.E = upd G1.E D (.lst vacc) := e4.e.trans (e3.e.trans hE2)
        have hI4 : G4.I = G1.I := e4.i.trans (e3.i.trans hI2)
        have d4 : DnA X.K (rg G4 true) H4 vacc bs := e4.dna (e3.dna d2)
        cases b with
        | false =>
          refine itF ⟨hlt, G4, Γ4, vacc, bs, ?_, l4, hE4, hI4, d4, Nat.le_succ_of_le hbs, ?_⟩
          · rw [← hw2]
            exact S5.wipeS vs
          · rw [eq, if_neg (by simp)]
        | true =>
          rw [if_pos rfl, R.bind_assoc] at eq
          refine itT ⟨Γ4, G4, S5, ?_⟩
          cases hte : e Γ4 with
          | bad => rw [hte] at eq; rw [eq] at p1; exact p1.elim
          | exc z => rw [hte] at eq; rw [eq] at p1; exact p1.elim
          | val z =>
            rw [hte] at eq
            obtain ⟨av, Γ5⟩ := z
            have eq : compU vs g fr t e items (wipeG Γ1 vs) = ((R.ofO (avD av)).bind fun o => (compU vs g fr t e (items.drop (i + 1)) (wipeG Γ5 vs)).bind fun r => .val (o :: r.1, r.2)).bind fun z => .val (bs ++ z.1, z.2) := eq
            cases hav : avD av with
            | none => rw [hav] at eq; rw [eq] at p1; exact p1.elim
            | some o =>
            rw [hav] at eq
            have eq : compU vs g fr t e items (wipeG Γ1 vs) = ((compU vs g fr t e (items.drop (i + 1)) (wipeG Γ5 vs)).bind fun r => .val (o :: r.1, r.2)).bind fun z => .val (bs ++ z.1, z.2) := eq
            intro G5 H5 e5 yv S6 dy
            have dy : Dn X.K (rg G5 true) H5 yv o := by
              unfold avD at hav
              split at hav
              · cases hav; exact dy
              · cases hav
            have hE5 : G5.E = upd G1.E D (.lst vacc) := e5.e.trans hE4
            obtain ⟨S7, hHD, t7⟩ := (S6.wipeS vs).unpin hE5 hE0 (nol vacc).1 (nol vacc).2 (fun j => by rw [e5.i, hI4]; exact hID j)
            have hal : vacc.length = bs.length := d4.length
            refine ⟨vacc, hHD, by omega, ?_⟩
            obtain ⟨S8, t8⟩ := S7.pin (o := .lst (vacc ++ [yv])) del_same
            have hH : upd (PD.del H5 D) D (.lst (vacc ++ [yv])) = upd H5 D (.lst (vacc ++ [yv])) := by
              funext b
              by_cases q : b = D
              · subst q; rw [upd_same, upd_same]
              · rw [upd_ne q, upd_ne q, del_ne q]
            rw [hH] at S8 t8
            have t9 : TupLe H5 (upd H5 D (.lst (vacc ++ [yv]))) := t7.tr t8
            refine ⟨hlt, ⟨G5.H0, G5.P, G5.I, G5.N, upd G1.E D (.lst (vacc ++ [yv]))⟩, Γ5, vacc ++ [yv], bs ++ [o], ?_, ⟨(l4.tr e5.le).h0, (l4.tr e5.le).p, (l4.tr e5.le).n, (l4.tr e5.le).nn, (l4.tr e5.le).t.tr t9, S8.w, fun a o h => by show upd G1.E D _ a = _; rw [upd_ne (fun z => by rw [z, hE0] at h; cases h)]; exact h⟩, rfl, e5.i.trans hI4, ?_, ?_, ?_⟩
            · rw [← hw2]
              exact S8
            · exact ((e5.dna d4).append (.cons dy .nil)).mono (fun _ _ h => h) t9
            · rw [List.length_append]
              show bs.length + 1 ≤ i + 1
              omega
            · rw [eq, R.bind_assoc]
              congr 1
              funext q
              show R.val (bs ++ o :: q.1, q.2) = R.val (bs ++ [o] ++ q.1, q.2)
              rw [List.append_assoc]
              rfl
    · have ei : i = items.length := by omega
      subst ei
      refine .inl ⟨I.st G2 H2 l2, ?_⟩
      rw [List.drop_length] at eq
      have eq : compU vs g fr t e items (wipeG Γ1 vs) = .val (bs ++ [], wipeG s0 vs) := eq
      rw [List.append_nil] at eq
      rw [eq] at p1
      obtain ⟨S7, hHD, t7⟩ := S2.unpin hE2 hE0 (nol vacc).1 (nol vacc).2 (fun j => by rw [hI2]; exact hID j)
      have P := p1 ⟨G2.H0, G2.P, G2.I, G2.N, G1.E⟩ (PD.del H2 D) ⟨l2.h0, l2.p, hI2, rfl, l2.n, l2.nn, l2.t.tr t7, S7.w⟩ D vacc (S7.swap (wipe_length ..).symm fun j => ?_) del_same (d2.mono (fun _ _ h => h) t7)
      · rw [del_upd hHD] at P
        exact P
      · have hlen : ∀ ws : List Nat, (wipeG s0 ws).length = s0.length := fun ws => by
          induction ws with
          | nil => rfl
          | cons w ws ih => simp [wipeG, ih]
        by_cases hj : j ∈ vs
        · by_cases hjl : j < s0.length
          · exact .inr (wipeG_at hj hjl)
          · left
            obtain ⟨A7, Z7⟩ := S7
            have : s0.length = σ.length := by rw [← hlen vs, Z7.len, wipe_length]
            rw [List.getElem?_eq_none (by omega), List.getElem?_eq_none (by rw [wipe_length]; omega)]
        · exact .inl (wipe_out hj).symm
structure CompU (X : Cx) (W : WX) (sc : Scope) (N : List Str) (tg iter elt : Expr) (ifs : List Expr) (scope : Scope) (own : List (Str × Nat)) (ts : List Nat) (g : DG) (it : DI) (t : DT) (e : DF) : Prop where
  hin : CI X W tg iter it
  ok : blkC N sc scope own = true
  hg : ∀ (s : Shared) (H : Hp) (c : Addr) (cl : List (Str × Addr)) (fp : List Addr), CG (X.blk s H scope (compEnvC scope cl c X.env) fp) tg ts g
  ht : ∀ (s : Shared) (H : Hp) (c : Addr) (cl : List (Str × Addr)) (fp : List Addr), CTs (X.blk s H scope (compEnvC scope cl c X.env) fp) WF ifs t
  he : ∀ (s : Shared) (H : Hp) (c : Addr) (cl : List (Str × Addr)) (fp : List Addr), CE (X.blk s H scope (compEnvC scope cl c X.env) fp) WF elt e
  hts : ∀ j ∈ ts, j ∈ own.map (·.2)
  hs : ∀ x, foldedSetIterable iter X.env x = pure x
theorem cn_comp (C : Cf X W sc N) (h : CompU X W sc N tg iter elt ifs scope own ts g it t e) : CN X W (.ListComp elt [⟨tg, iter, ifs, 0⟩] scope pos) (nComp (own.map (·.2)) g it t e) := fun Γ => by
  have hB : BlkOk X.N X.env.scope scope own := by rw [C.hN, C.hsc]; exact blkOk_by h.ok
  refine pe_imp (pe_lc (g := fun v σ H Q => ∃ G Γ fr d Γ', Sta X.K G H σ Γ ∧ Dn X.K (rg G fr) H v d ∧ g fr d Γ = some Γ' ∧ ∀ σ' : St, List.length σ' = List.length σ → (∀ j, j ∉ ts → σ'[j]? = σ[j]?) → Sta X.K G H σ' Γ' → Q σ' H)
    (tt := fun σ H Q => ∃ Γ1, rdT X WF Γ1 (t Γ1) Prod.fst Prod.snd σ H Q) (te := fun σ H Q => ∃ Γ1, rdE X WF Γ1 (e Γ1) Prod.fst Prod.snd σ H Q)
    C.calm (by rw [C.hN]; exact C.nd) (h.hin Γ) hB (fun s H c cl fp => h.hg s H c cl fp) (fun s H c cl fp => ?_) (fun s H c cl fp => ?_) h.hs) fun σ H Q q => comp_rdU h.hts q
  · exact ⟨fun pins s' σ H' Q I ⟨z, q⟩ => (h.ht s H c cl fp z).run pins s' σ H' Q I q⟩
  · exact ⟨fun pins s' σ H' Q I ⟨z, q⟩ => (h.he s H c cl fp z).run pins s' σ H' Q I q⟩
theorem set_lc (C : Cf X W sc N) (hk : sc.kind = .function) {i : Nat} {y : Str} {py spos : Pos} (hN : N[i]? = some y) (hy : lclB sc y = true) (hl : (py.line == pos.line) = true) (hnn : (scope.names.any fun (n, k) => n == y && (k == .local || k == .cell)) = false)
    (h : CompU X W sc N tg iter elt ifs scope own ts g it t e) (Γ : List Sl) : PS X (.Assign [.Name y py] (.ListComp elt [⟨tg, iter, ifs, 0⟩] scope pos) spos) (fun D σ H => rdF X W Γ (nComp (own.map (·.2)) g it t e Γ) Prod.fst Prod.snd σ H fun v H1 => D.nx (σ.set i (some v)) H1) := by
  have hB : BlkOk X.N X.env.scope scope own := by rw [C.hN, C.hsc]; exact blkOk_by h.ok
  have hyl : X.env.scope.names.lookup y = some .local := by
    rw [C.hsc]
    unfold lclB at hy
    split at hy
    · assumption
    · cases hy
  refine ps_imp (ps_setLc (g := fun v σ H Q => ∃ G Γ fr d Γ', Sta X.K G H σ Γ ∧ Dn X.K (rg G fr) H v d ∧ g fr d Γ = some Γ' ∧ ∀ σ' : St, List.length σ' = List.length σ → (∀ j, j ∉ ts → σ'[j]? = σ[j]?) → Sta X.K G H σ' Γ' → Q σ' H)
    (tt := fun σ H Q => ∃ Γ1, rdT X WF Γ1 (t Γ1) Prod.fst Prod.snd σ H Q) (te := fun σ H Q => ∃ Γ1, rdE X WF Γ1 (e Γ1) Prod.fst Prod.snd σ H Q)
    C.calm (by rw [C.hN]; exact C.nd) (by rw [C.hN]; exact hN) hyl (sw_true (by rw [C.hsc]; exact hk) hyl hl hnn) (h.hin Γ) hB (fun s H c cl fp => h.hg s H c cl fp) (fun s H c cl fp => ?_) (fun s H c cl fp => ?_) h.hs) fun D σ H q => comp_rdU h.hts q
  · exact ⟨fun pins s' σ H' Q I ⟨z, q⟩ => (h.ht s H c cl fp z).run pins s' σ H' Q I q⟩
  · exact ⟨fun pins s' σ H' Q I ⟨z, q⟩ => (h.he s H c cl fp z).run pins s' σ H' Q I q⟩
theorem c1_lcD (C : Cf X W sc N) (hk : sc.kind = .function) (i : Nat) {y : Str} {py spos : Pos} (hN : N[i]? = some y) (hy : lclB sc y = true) (h : CompU X W sc N tg iter elt ifs scope own ts g it t e) (hl : (py.line == pos.line) = true := by rfl) (hnn : (scope.names.any fun (n, k) => n == y && (k == .local || k == .cell)) = false := by decide +kernel) :
    C1 X W (.Assign [.Name y py] (.ListComp elt [⟨tg, iter, ifs, 0⟩] scope pos) spos) (bSet i (dOfN (nComp (own.map (·.2)) g it t e))) := fun Γ =>
  ps_imp (set_lc C hk hN hy hl hnn h Γ) fun D σ H ⟨G, S, p⟩ => by
    have p : Pst X W G H σ (((nComp (own.map (·.2)) g it t e Γ).bind fun z => .val (.d true (.list z.1), z.2)).bind fun z : AV × List Sl => (R.ofO (asSl z.1)).bind fun s => .val (Fw.nx, z.2.set i s)) (fun z G' H' => FinU X.K G' H' D z.2 z.1) := p
    rw [R.bind_assoc] at p
    refine ⟨G, S, (Pst.bind p).imp fun z G1 H1 e1 p1 q vs S1 hq hd => ?_⟩
    obtain ⟨G2, S2, e2, d2⟩ := (newc_lst hq hd).frz S1 rfl
    exact p1 G2 _ e2 _ (S2.put i d2)
end
end PD
set_option Elab.async false
set_option linter.all false
set_option maxRecDepth 100000
set_option maxHeartbeats 4000000
set_option autoImplicit false
namespace PD
open PySem L2
def cellL (Γ : List Sl) (i : Nat) : Option (Bool × List PyData) := match Γ[i]? with
  | some (.own (.lst ds)) => some (false, ds)
  | some (.io (.lst ds)) => some (true, ds)
  | _ => none
theorem cellL_ok {Γ : List Sl} {i : Nat} {z : Bool × List PyData} (h : cellL Γ i = some z) : Γ[i]? = some (mkS z.1 (.lst z.2)) := by
  unfold cellL at h
  split at h
  · cases h; exact ‹_›
  · cases h; exact ‹_›
  · cases h
section
variable {X : Cx} {W : WX} {sc : Scope} {N : List Str} {o e e2 : Expr} {es : List Expr} {apos cpos pos p : Pos} {k : DA} {f g : DF}
def dLm (i : Nat) (q : List PyData → List AV → R (PyData × List PyData)) (k : DA) : DF := fun Γ => (R.ofO (cellL Γ i)).bind fun _ => (k Γ).bind fun z => (R.ofO (cellL z.2 i)).bind fun c => (q c.2 z.1).bind fun y => .val (.d true y.1, z.2.set i (mkS c.1 (.lst y.2)))
theorem evp_cell (C : Cf0 X W sc N) {Γ : List Sl} {i : Nat} {x : Str} {io : Bool} {c : Cl} (h : Γ[i]? = some (mkS io c)) (hN : N[i]? = some x) (hv : visB sc x = true) (hd : (x == ("__debug__" : Str)) = false := by decide +kernel) (hcd : (x == ("__classdict__" : Str)) = false := by decide +kernel) : EvP X W Γ (.Name x p) (.s i) := by
  cases io with
  | true => exact evp_slot C (.inr (.inl h)) hN hv hd hcd
  | false => exact evp_slot C (.inl h) hN hv hd hcd
theorem ce_lm (C : Cf0 X W sc N) {name : Str} {id : String} {r : V → List V → Hp → VK → Prop} (q : List PyData → List AV → R (PyData × List PyData)) (slot : Slot "list" name id) (hty : typeOf (.builtin id) = pure (.type "method_descriptor")) (hm : MtR X id r)
    (hk : ∀ as ds G H σ p ws Q, H p = some (.lst ws) → DnA X.K (rg G true) H ws ds → (∀ vs, AVs X.K G H σ vs as → (∀ y, q ds as = .val y → ∃ ws' v, DnA X.K (rg G true) H ws' y.2 ∧ Dn X.K (rg G true) H v y.1 ∧ (Q v (upd H p (.lst ws')) → r (.ref p) vs H Q))))
    (i : Nat) {x : Str} (hN : N[i]? = some x) (hv : visB sc x = true) (ha : CA X W (e :: es) k) (hq : ∀ ds as z, q ds as ≠ .exc z)
    (hd : (x == ("__debug__" : Str)) = false := by decide +kernel) (hcd : (x == ("__classdict__" : Str)) = false := by decide +kernel)
    (hfew : ((backTo cpos (starEach (e :: es) X.env)).all (fun x => !x.1) && (backToKw cpos (keywordEach [] X.env)).all (fun x => x.1.isSome) && decide ((e :: es).length + ([] : List Keyword).length + (if ([] : List Keyword).isEmpty then 0 else 1) < 30)) = true := by rfl)
    (hline : (apos.endLine == cpos.line) = true := by rfl) (hs : starEach (e :: es) X.env = (false, eval e X.env) :: starEach es X.env := by rfl) (hplain : (backTo cpos (starEach es X.env)).any (·.1) = false := by rfl)
    (hbase : attributeBase (.Name x p) name X.env (eval (.Name x p) X.env) = eval (.Name x p) X.env := by rfl) :
    CE X W (.Call (.Attribute (.Name x p) name apos) (e :: es) [] cpos) (dLm i q k) := fun Γ => by
  unfold dLm
  cases h0 : cellL Γ i with
  | none => exact ev_bad
  | some c0 =>
    have ho := evp_cell (W := W) (p := p) C (cellL_ok h0) hN hv hd hcd
    refine pe_imp (pe_bm PySem.F.plainAttrs_list slot hty hm ho (ha Γ) hbase hfew hline hs hplain) fun σ H Q ⟨G, S, pp⟩ => ⟨G, S, fun G1 H1 e1 v S1 hx => ?_⟩
    obtain ⟨l, vs, g1, g2, g3, _⟩ := S1.chg i c0.1 (cellL_ok h0)
    have hx : σ[i]? = some (some v) := hx
    rw [g1] at hx
    cases hx
    have pp : Pst X W G H σ ((k Γ).bind fun z => (R.ofO (cellL z.2 i)).bind fun c => (q c.2 z.1).bind fun y => .val (AV.d true y.1, z.2.set i (mkS c.1 (.lst y.2)))) _ := pp
    refine ⟨.inl ⟨rfl, vs, SqL.of g2⟩, G1, S1, (Pst.bind (Pst.ext pp e1)).imp fun z G2 H2 e2 p2 ws S2 hw => ?_⟩
    obtain ⟨c, hc, p2⟩ := Pst.ofO p2
    obtain ⟨l', vs', k1, k2, k3, k4⟩ := S2.chg i c.1 (cellL_ok hc)
    rw [g1] at k1
    cases k1
    cases hy : q c.2 z.1 with
    | bad => rw [hy] at p2; exact p2.elim
    | exc z => exact absurd hy (hq _ _ _)
    | val y =>
      rw [hy] at p2
      obtain ⟨ws', v, m1, m2, m3⟩ := hk z.1 c.2 G2 H2 σ l vs' Q k2 k3 ws hw y hy
      obtain ⟨S3, e3⟩ := k4 ws' y.2 m1
      exact m3 (p2 G2 _ e3 v S3 (e3.dn m2))
theorem ce_lm0 (C : Cf0 X W sc N) {name : Str} {id : String} {r : V → List V → Hp → VK → Prop} (q : List PyData → List AV → R (PyData × List PyData)) (slot : Slot "list" name id) (hty : typeOf (.builtin id) = pure (.type "method_descriptor")) (hm : MtR X id r)
    (hk : ∀ ds G H p ws Q, H p = some (.lst ws) → DnA X.K (rg G true) H ws ds → (∀ y, q ds [] = .val y → ∃ ws' v, DnA X.K (rg G true) H ws' y.2 ∧ Dn X.K (rg G true) H v y.1 ∧ (Q v (upd H p (.lst ws')) → r (.ref p) [] H Q)))
    (i : Nat) {x : Str} (hN : N[i]? = some x) (hv : visB sc x = true) (hq : ∀ ds as z, q ds as ≠ .exc z)
    (hd : (x == ("__debug__" : Str)) = false := by decide +kernel) (hcd : (x == ("__classdict__" : Str)) = false := by decide +kernel)
    (hline : (apos.endLine == cpos.line) = true := by rfl) (hbase : attributeBase (.Name x p) name X.env (eval (.Name x p) X.env) = eval (.Name x p) X.env := by rfl) :
    CE X W (.Call (.Attribute (.Name x p) name apos) [] [] cpos) (dLm i q dA0) := fun Γ => by
  unfold dLm
  cases h0 : cellL Γ i with
  | none => exact ev_bad
  | some c0 =>
    have ho := evp_cell (W := W) (p := p) C (cellL_ok h0) hN hv hd hcd
    refine pe_imp (pe_bm0 PySem.F.plainAttrs_list slot hty hm ho hbase hline) fun σ H Q ⟨G, S, pp⟩ => ⟨G, S, fun G1 H1 e1 v S1 hx => ?_⟩
    obtain ⟨l, vs, g1, g2, g3, k4⟩ := S1.chg i c0.1 (cellL_ok h0)
    have hx : σ[i]? = some (some v) := hx
    rw [g1] at hx
    cases hx
    refine ⟨.inl ⟨rfl, vs, SqL.of g2⟩, ?_⟩
    have pp : Pst X W G H σ ((R.ofO (cellL Γ i)).bind fun c => (q c.2 []).bind fun y => .val (AV.d true y.1, Γ.set i (mkS c.1 (.lst y.2)))) _ := pp
    obtain ⟨c, hc, p2⟩ := Pst.ofO (Pst.ext pp e1)
    rw [h0] at hc
    cases hc
    cases hy : q c0.2 [] with
    | bad => rw [hy] at p2; exact p2.elim
    | exc z => exact absurd hy (hq _ _ _)
    | val y =>
      rw [hy] at p2
      obtain ⟨ws', v, m1, m2, m3⟩ := hk c0.2 G1 H1 l vs Q g2 g3 y hy
      obtain ⟨S3, e3⟩ := k4 ws' y.2 m1
      exact m3 (p2 G1 _ e3 v S3 (e3.dn m2))
def qAppend (ds : List PyData) : List AV → R (PyData × List PyData)
  | [.d true y] => gq (ltS ds) (.none, ds ++ [y])
  | _ => .bad
theorem gq_val {α : Type} {c : Bool} {a b : α} (h : gq c a = .val b) : c = true ∧ b = a := by
  cases c with
  | false => cases h
  | true => cases h; exact ⟨rfl, rfl⟩
theorem gq_nox {α : Type} {c : Bool} {a : α} {z : Exn} : gq c a ≠ .exc z := by cases c <;> intro h <;> cases h
theorem ce_append (C : Cf0 X W sc N) (i : Nat) {x : Str} (hN : N[i]? = some x) (hv : visB sc x = true) (ha : CE X W e f) (hs : starEach [e] X.env = (false, eval e X.env) :: starEach [] X.env := by rfl) (hd : (x == ("__debug__" : Str)) = false := by decide +kernel) (hcd : (x == ("__classdict__" : Str)) = false := by decide +kernel) (hline : (apos.endLine == cpos.line) = true := by rfl)
    (hbase : attributeBase (.Name x p) "append" X.env (eval (.Name x p) X.env) = eval (.Name x p) X.env := by rfl) : CE X W (.Call (.Attribute (.Name x p) "append" apos) [e] [] cpos) (dLm i qAppend (dAc (dFrz f) dA0)) := by
  refine ce_lm C qAppend PySem.F.slot_list_append PySem.F.type_list_append mt_append (fun as ds G H σ p ws Q hp hd vs av y hy => ?_) i hN hv (ca_cons (ce_frz ha) ca_nil hs) (fun ds as z h => ?_) hd hcd (by rw [hs]; rfl) hline hs rfl hbase
  · unfold qAppend at hy
    split at hy
    · rename_i z
      obtain ⟨hc, rfl⟩ := gq_val hy
      obtain ⟨v, rfl, hv⟩ := avs_one av
      have hv : Dn X.K (rg G true) H v z := hv
      exact ⟨ws ++ [v], .non, hd.append (.cons hv .nil), .non, fun q => ⟨p, ws, v, rfl, rfl, hp, by rw [hd.length]; exact of_decide_eq_true hc, q⟩⟩
    · cases hy
  · unfold qAppend at h
    split at h
    · exact gq_nox h
    · cases h
def insI {β : Type} (xs : List β) (n : Int) (y : β) : List β := xs.take n.toNat ++ [y] ++ xs.drop n.toNat
def cIns {β : Type} (xs : List β) (n : Int) : Bool := decide (xs.length < sizeLine) && decide (0 ≤ n ∧ n < 2 ^ 63)
def qInsert (ds : List PyData) : List AV → R (PyData × List PyData)
  | [.d _ (.int n), .d true y] => gq (cIns ds n) (.none, insI ds n y)
  | _ => .bad
def qPop (ds : List PyData) (_ : List AV) : R (PyData × List PyData) := (R.ofO ds.getLast?).bind fun y => .val (y, ds.dropLast)
end
end PD
set_option Elab.async false
set_option linter.all false
set_option maxRecDepth 100000
set_option maxHeartbeats 4000000
set_option autoImplicit false
namespace PD
open PySem L2
theorem Sta.chg1 {K : PySem.W.Frag} {G : Gh} {H : Hp} {σ : St} {Γ : List Sl} {c : Cl} (s : Sta K G H σ Γ) (i : Nat) (io : Bool) (hi : Γ[i]? = some (mkS io c)) :
    ∃ v fp, σ[i]? = some (some v) ∧ c.ok K (rg G true) H v fp ∧ ∀ p o o' c', fp = [p] → H p = some o → (∀ xs, o ≠ .tup xs) → (∀ x y, o ≠ .frz x y) → c'.ok K (rg G true) (upd H p o') v [p] → Sta K G (upd H p o') σ (Γ.set i (mkS io c')) ∧ Ext G H G (upd H p o') := by
  obtain ⟨A, S⟩ := s
  have key : ∃ v, σ[i]? = some (some v) ∧ c.ok K (RgN G) H v (A i) ∧ ∀ (H' : Hp) (c' : Cl) (fp' : List Addr), c'.ok K (RgN G) H' v fp' → (∀ p ∈ fp', p ∈ A i) → SlOk K G H' i σ[i]? fp' (mkS io c') := by
    cases io with
    | true =>
      obtain ⟨v, h1, h2, h3⟩ := S.sl i _ hi
      exact ⟨v, h1, h3, fun H' c' fp' k _ => ⟨v, h1, h2, k⟩⟩
    | false =>
      obtain ⟨v, h1, h2, h3⟩ := S.sl i _ hi
      exact ⟨v, h1, h3, fun H' c' fp' k q => ⟨v, h1, fun p hp => h2 p (q p hp), k⟩⟩
  obtain ⟨v, h1, hc, mk⟩ := key
  refine ⟨v, A i, h1, hc, fun p o o' c' hfp hp ht hz hc' => ?_⟩
  have hpA : p ∈ A i := by rw [hfp]; simp
  have hN : G.N p = none := (S.al i p hpA).2.1
  have g : Grow G H G.N (upd H p o') [p] := grow_mut S.w hp hN ht hz
  refine S.step (i := i) (fp' := [p]) (s' := mkS io c') (σ' := σ) g (fun q hq => ?_) (fun j hj => rfl) rfl (fun hlt => mk _ c' [p] hc' fun q hq => ?_) (fun q hq => ?_)
  · have : q = p := by simpa using hq
    rw [this]; exact hpA
  · have : q = p := by simpa using hq
    rw [this]; exact hpA
  · have : q = p := by simpa using hq
    rw [this]
    exact ⟨by rw [upd_same]; simp, hN, .inl hpA⟩
section
variable {X : Cx} {W : WX} {sc : Scope} {N : List Str} {a b e e2 o : Expr} {es : List Expr} {apos cpos pos p : Pos} {k : DA} {f g : DF} {s : Stmt}
theorem u1 (C : Cf0 X W sc N) : X.A.units + 1 < cLine := by have := C.hu2; omega
theorem u65 (C : Cf0 X W sc N) : X.A.units + 65 < cLine := by have := C.hu2; omega
def bBad : DS := fun _ => .bad
theorem ce_insert (C : Cf0 X W sc N) (i : Nat) {x : Str} (hN : N[i]? = some x) (hv : visB sc x = true) (ha : CE X W e f) (hb : CE X W e2 g) (hs : starEach [e, e2] X.env = (false, eval e X.env) :: starEach [e2] X.env := by rfl) (hs2 : starEach [e2] X.env = (false, eval e2 X.env) :: starEach [] X.env := by rfl) (hd : (x == ("__debug__" : Str)) = false := by decide +kernel) (hcd : (x == ("__classdict__" : Str)) = false := by decide +kernel) (hline : (apos.endLine == cpos.line) = true := by rfl)
    (hbase : attributeBase (.Name x p) "insert" X.env (eval (.Name x p) X.env) = eval (.Name x p) X.env := by rfl) : CE X W (.Call (.Attribute (.Name x p) "insert" apos) [e, e2] [] cpos) (dLm i qInsert (dAc f (dAc (dFrz g) dA0))) := by
  refine ce_lm C qInsert PySem.F.slot_list_insert PySem.F.type_list_insert mt_insert (fun as ds G H σ p ws Q hp hd vs av y hy => ?_) i hN hv (ca_cons ha (ca_cons (ce_frz hb) ca_nil hs2) hs) (fun ds as z h => ?_) hd hcd (by rw [hs, hs2]; rfl) hline hs (by rw [hs2]; rfl) hbase
  · unfold qInsert at hy
    split at hy
    · rename_i n z
      obtain ⟨hc, rfl⟩ := gq_val hy
      obtain ⟨u, v, rfl, hu, hv⟩ := avs_two av
      have hv : Dn X.K (rg G true) H v z := hv
      unfold cIns at hc
      rw [Bool.and_eq_true] at hc
      have c2 : 0 ≤ n ∧ n < 2 ^ 63 := of_decide_eq_true hc.2
      exact ⟨_, .non, ((hd.take n.toNat).append (.cons hv .nil)).append (hd.drop n.toNat), .non, fun q => ⟨p, ws, n, v, rfl, by rw [dn_int hu], hp, by rw [hd.length]; exact of_decide_eq_true hc.1, c2.1, c2.2, q⟩⟩
    · cases hy
  · unfold qInsert at h
    split at h
    · exact gq_nox h
    · cases h
def qReverse (ds : List PyData) (_ : List AV) : R (PyData × List PyData) := .val (.none, ds.reverse)
theorem ce_reverse (C : Cf0 X W sc N) (i : Nat) {x : Str} (hN : N[i]? = some x) (hv : visB sc x = true) (hd : (x == ("__debug__" : Str)) = false := by decide +kernel) (hcd : (x == ("__classdict__" : Str)) = false := by decide +kernel) (hline : (apos.endLine == cpos.line) = true := by rfl)
    (hbase : attributeBase (.Name x p) "reverse" X.env (eval (.Name x p) X.env) = eval (.Name x p) X.env := by rfl) : CE X W (.Call (.Attribute (.Name x p) "reverse" apos) [] [] cpos) (dLm i qReverse dA0) :=
  ce_lm0 C qReverse PySem.F.slot_list_reverse PySem.F.type_list_reverse mt_reverse (fun ds G H p ws Q hp hd y hy => by
    cases hy
    exact ⟨ws.reverse, .non, hd.reverse, .non, fun q => ⟨p, ws, rfl, rfl, hp, q⟩⟩) i hN hv (fun ds as z h => by cases h) hd hcd hline hbase
def rSetD : V → V → V → Hp → (Hp → Prop) → Prop := fun o i v H Q => ∃ a H', o = .ref a ∧ DPut H a i v H' ∧ Q H'
theorem set_dict (hu : X.A.units + 1 < cLine) : PSet X rSetD := by
  intro pins s σ H o i v ov iv u Q I ro ri rv h
  obtain ⟨a, H', rfl, g, q⟩ := h
  cases ro
  exact d_setItem hu I g ri rv fun s' I' => ⟨H', I', q⟩
theorem set_or {t1 t2 : V → V → V → Hp → (Hp → Prop) → Prop} (h1 : PSet X t1) (h2 : PSet X t2) : PSet X (fun o i v H Q => t1 o i v H Q ∨ t2 o i v H Q) := fun pins s σ H o i v ov iv u Q I ro ri rv h => h.elim (h1 pins s σ H o i v ov iv u Q I ro ri rv) (h2 pins s σ H o i v ov iv u Q I ro ri rv)
def dKey : PyData → Option Key
  | .int i => some (.inl i)
  | .str x => some (.inr x)
  | _ => none
def dKeys : List PyData → Option (List Key)
  | [] => some []
  | d :: ds => (dKey d).bind fun k => (dKeys ds).map (k :: ·)
theorem dKey_eq {d : PyData} {k : Key} (h : dKey d = some k) : d = keyD k := by
  cases d <;> simp only [dKey] at h <;> cases h <;> rfl
theorem dKey_ok {K : PySem.W.Frag} {G : Rg} {H : Hp} {v : V} {d : PyData} {k : Key} (h : dKey d = some k) (hv : Dn K G H v d) : v = kV k := by
  cases d <;> simp only [dKey] at h <;> cases h
  · exact dn_int hv
  · exact dn_str hv
theorem dKeys_ok {K : PySem.W.Frag} {G : Rg} {H : Hp} : ∀ {ds : List PyData} {ks : List Key} {vs : List V}, dKeys ds = some ks → DnA K G H vs ds → vs = ks.map kV
  | [], _, _, h, .nil => by cases h; rfl
  | d :: ds, ks, _, h, .cons q r => by
    unfold dKeys at h
    cases e : dKey d with
    | none => rw [e] at h; cases h
    | some k =>
      rw [e] at h
      have h : (dKeys ds).map (k :: ·) = some ks := h
      cases e2 : dKeys ds with
      | none => rw [e2] at h; cases h
      | some js =>
        rw [e2] at h
        cases h
        rw [dKey_ok e q, dKeys_ok e2 r]
        rfl
theorem dKeys_eq : ∀ {ds : List PyData} {ks : List Key}, dKeys ds = some ks → ds = ks.map keyD
  | [], _, h => by cases h; rfl
  | d :: ds, ks, h => by
    unfold dKeys at h
    cases e : dKey d with
    | none => rw [e] at h; cases h
    | some k =>
      rw [e] at h
      have h : (dKeys ds).map (k :: ·) = some ks := h
      cases e2 : dKeys ds with
      | none => rw [e2] at h; cases h
      | some js => rw [e2] at h; cases h; rw [dKey_eq e, dKeys_eq e2]; rfl
end
end PD
set_option Elab.async false
set_option linter.all false
set_option maxRecDepth 100000
set_option maxHeartbeats 4000000
set_option autoImplicit false
namespace PD
open PySem L2
theorem DnA.fresh {K : PySem.W.Frag} {G : Gh} {H : Hp} {fr : Bool} {vs : List V} {ds : List PyData} (h : DnA K (rg G fr) H vs ds) (hf : (fr || flat.flatA ds) = true) : DnA K (rg G true) H vs ds := by
  cases fr with
  | true => exact h
  | false => exact h.free (by simpa using hf)
section
variable {X : Cx} {W : WX} {sc : Scope} {N : List Str} {a b c e e2 o : Expr} {es : List Expr} {apos cpos pos p p2 : Pos} {k : DA} {f g : DF} {s : Stmt}
def rCatL (K : PySem.W.Frag) : R2 := fun x y H Q => ∃ l b xs zs, x = .ref l ∧ y = .ref b ∧ SqL K H l xs ∧ SqL K H b zs ∧ xs.length + zs.length ≤ sizeLine ∧ ∀ p, H p = none → Q (.ref p) (upd H p (.lst (xs ++ zs)))
theorem op_catL : OpR X (binaryOp .Add) (rCatL X.K) := by
  intro pins s σ H x y v u Q I rx ry h
  obtain ⟨l, b, xs, zs, rfl, rfl, hH, hB, hz, q⟩ := h
  cases rx
  cases ry
  obtain ⟨its, r, ⟨⟨cls, dd, data, sl⟩, n, e, hc, hd, hs⟩, z⟩ := I.list hH
  obtain ⟨its2, r2, ⟨⟨cls2, dd2, data2, sl2⟩, n2, e2, hc2, hd2, hs2⟩, z2⟩ := I.list hB
  have hc : cls = .type "list" := hc
  have hs : data = .seq its.toArray n := hs
  have hc2 : cls2 = .type "list" := hc2
  have hs2 : data2 = .seq its2.toArray n2 := hs2
  subst hc hs hc2 hs2
  have hl := r.length
  have hl2 := r2.length
  have ea : its.toArray ++ its2.toArray = (its ++ its2).toArray := by simp
  refine PySem.concat_meets ⟨_, e, rfl⟩ ⟨_, e2, rfl⟩ PySem.noFill_list_add PySem.seq_list_add PySem.F.slot_list_add PySem.F.entry_list_add (PySem.F.args_list_add_2 _ _) (PyProof.Rows.list_addW l b its.toArray its2.toArray n n2 dd dd2 sl sl2 (by rw [List.size_toArray, List.size_toArray]; omega)) ⟨e, e2, ?_⟩
  rw [ea]
  exact ⟨.ref _, _, I.lnew (t' := s.toks) (r.append r2) (by rw [List.length_append]; omega), rfl, q _ I.fresh⟩
def lsA (Γ : List Sl) : AV → Option (List PyData)
  | .d fr (.list ds) => if fr || flat.flatA ds then some ds else none
  | .s j => match rdD Γ (.s j) with
    | some (.list ds) => some ds
    | _ => none
  | _ => none
theorem lsA_ok {Γ : List Sl} {x : AV} {ds : List PyData} {G : Gh} {H : Hp} {σ : St} {v : V} (h : lsA Γ x = some ds) (S : Sta X.K G H σ Γ) (hv : AVok X.K G H σ v x) : ∃ l xs, v = .ref l ∧ SqL X.K H l xs ∧ DnA X.K (rg G true) H xs ds := by
  unfold lsA at h
  split at h
  · rename_i fr ds'
    by_cases hc : (fr || flat.flatA ds') = true
    · rw [if_pos hc] at h
      cases h
      obtain ⟨l, xs, rfl, g1, g2⟩ := dn_list hv
      exact ⟨l, xs, rfl, (g1.mono (S.w.rgl _)).sq, g2.fresh hc⟩
    · rw [if_neg hc] at h; cases h
  · rename_i j
    split at h
    · cases h
      obtain ⟨l, xs, rfl, g1, g2⟩ := S.slotL ‹_› hv
      exact ⟨l, xs, rfl, SqL.of g1, g2⟩
    · cases h
  · cases h
def dCat (f g : DF) : DN := fun Γ => (f Γ).bind fun x => (g x.2).bind fun y => (R.ofO (lsA y.2 x.1)).bind fun ds => (R.ofO (lsA y.2 y.1)).bind fun es => gq (szB (ds ++ es)) (ds ++ es, y.2)
theorem cn_cat (ha : CE X W a f) (hb : CE X W b g) : CN X W (.BinOp a .Add b pos) (dCat f g) := fun Γ =>
  pe_imp (pe_op op_catL (ha Γ) (pe_any fun x : AV × List Sl => hb x.2)) fun σ H Q ⟨G, S, q⟩ => ⟨G, S, (Pst.bind q).imp fun x G1 H1 e1 q1 v S1 hv => ⟨x, G1, S1, (Pst.bind q1).imp fun y G2 H2 e2 q2 u S2 hu => by
    obtain ⟨ds, h1, q2⟩ := Pst.ofO q2
    obtain ⟨es, h2, q2⟩ := Pst.ofO q2
    obtain ⟨hc, q3⟩ := Pst.gq S2.w q2
    obtain ⟨l, xs, rfl, g1, g2⟩ := lsA_ok h1 S2 (hv.ext e2)
    obtain ⟨l2, ys, rfl, g3, g4⟩ := lsA_ok h2 S2 hu
    refine ⟨l, l2, xs, ys, rfl, rfl, g1, g3, ?_, fun p hp => q3 p _ S2 hp (g2.append g4)⟩
    have := of_decide_eq_true hc
    rw [g2.length, g4.length]
    simpa using this⟩⟩
def cutD {α : Type} (ds : List α) (lo hi : Option Int) : List α := (ds.drop (HT.sIx ds.length 0 lo)).take (HT.sIx ds.length ds.length hi - HT.sIx ds.length 0 lo)
theorem DnA.cut {K : PySem.W.Frag} {G : Rg} {H : Hp} {vs : List V} {ds : List PyData} (h : DnA K G H vs ds) (lo hi : Option Int) : DnA K G H (cutV vs lo hi) (cutD ds lo hi) := by
  unfold cutV cutD
  rw [h.length]
  exact (h.drop _).take _
abbrev DO := List Sl → R (Option Int × List Sl)
def rdO (X : Cx) (W : WX) (Γ : List Sl) (m : R (Option Int × List Sl)) : TO := fun σ H Q => ∃ G, Sta X.K G H σ Γ ∧ Pst X W G H σ m fun r G' H' => Sta X.K G' H' σ r.2 → Q r.1 H'
def CO (X : Cx) (W : WX) (e : Option Expr) (f : DO) : Prop := ∀ Γ, PO X e (rdO X W Γ (f Γ))
theorem po_imp {e : Option Expr} {t t' : TO} (h : PO X e t) (k : ∀ σ H Q, t' σ H Q → t σ H Q) : PO X e t' := ⟨fun pins s σ H Q I q => h.run pins s σ H Q I (k σ H Q q)⟩
theorem po_any {e : Option Expr} {α : Type} {t : α → TO} (h : ∀ x, PO X e (t x)) : PO X e (fun σ H Q => ∃ x, t x σ H Q) := ⟨fun pins s σ H Q I ⟨x, q⟩ => (h x).run pins s σ H Q I q⟩
def oNone : DO := fun Γ => .val (none, Γ)
theorem co_none : CO X W none oNone := fun Γ => po_imp po_none fun σ H Q ⟨G, S, q⟩ => q G H (Ext.rf S.w) S
def oSome (f : DF) : DO := fun Γ => (f Γ).bind fun z => (R.ofO (intA z.1)).bind fun i => .val (some i, z.2)
theorem co_some (ha : CE X W e f) : CO X W (some e) (oSome f) := fun Γ => po_imp (po_some (ha Γ)) fun σ H Q ⟨G, S, q⟩ => ⟨G, S, (Pst.bind q).imp fun x G1 H1 e1 q1 v S1 hv => by
  obtain ⟨i, hi, q1⟩ := Pst.ofO q1
  exact ⟨i, intA_ok hi hv, q1 G1 H1 (Ext.rf S1.w) S1⟩⟩
theorem cut_whole {α : Type} (xs : List α) {lo hi : Option Int} (h : HT.sIx xs.length 0 lo = 0 ∧ HT.sIx xs.length xs.length hi = xs.length) : cutD xs lo hi = xs := by
  unfold cutD
  rw [h.1, h.2, List.drop_zero, Nat.sub_zero, List.take_length]
end
end PD
set_option Elab.async false
set_option linter.all false
set_option maxRecDepth 100000
set_option maxHeartbeats 4000000
set_option autoImplicit false
namespace PD
open PySem L2
mutual
def eqK : PyData → PyData → Bool
  | .int i, .int j => decide (i = j)
  | .str x, .str y => decide (x = y)
  | .tuple xs, .tuple ys => eqKs xs ys
  | _, _ => false
def eqKs : List PyData → List PyData → Bool
  | [], [] => true
  | x :: xs, y :: ys => eqK x y && eqKs xs ys
  | _, _ => false
end
theorem eqK_keyD (k k' : Key) : eqK (keyD k) (keyD k') = decide (k = k') := by
  cases k <;> cases k' <;> simp [keyD, eqK]
theorem eqKs_keyD : ∀ (k k' : List Key), eqKs (k.map keyD) (k'.map keyD) = decide (k = k')
  | [], [] => rfl
  | [], _ :: _ => by simp [eqKs]
  | _ :: _, [] => by simp [eqKs]
  | x :: xs, y :: ys => by
    simp only [List.map_cons, eqKs, eqK_keyD, eqKs_keyD xs ys, List.cons.injEq]
    by_cases h : x = y <;> by_cases h2 : xs = ys <;> simp [h, h2]
def kOk : Dk → PyData → Bool
  | .k, d => (dKey d).isSome
  | .t, .tuple ks => (dKeys ks).isSome
  | .t, _ => false
  | .n, _ => false
def getD (kvs : List (PyData × PyData)) (k : PyData) : Option PyData := (kvs.find? fun z => eqK z.1 k).map (·.2)
def putD (kvs : List (PyData × PyData)) (k v : PyData) : List (PyData × PyData) := if kvs.any (fun z => eqK z.1 k) then kvs.map (fun z => if eqK z.1 k then (z.1, v) else z) else kvs ++ [(k, v)]
def kindD : List (PyData × PyData) → Option Dk
  | (.int _, _) :: _ => some .k
  | (.str _, _) :: _ => some .k
  | (.tuple _, _) :: _ => some .t
  | _ => none
theorem kindD_ok {t : Dk} {o : HO} {vs : List V} {kvs : List (PyData × PyData)} {t' : Dk} (h : kindD kvs = some t') {a : Addr} (ho : DcO t a o (kvs.map (·.1)) vs) : t = t' := by
  cases t with
  | k =>
    obtain ⟨ks, rfl, h1, _⟩ := ho
    cases kvs with
    | nil => cases h
    | cons z r =>
      cases ks with
      | nil => cases h1
      | cons y s =>
        obtain ⟨d, v⟩ := z
        have h1 := (List.cons.inj h1).1
        have h1 : d = keyD y.1 := h1
        subst h1
        cases hy : y.1 <;> rw [hy] at h <;> cases h <;> rfl
  | t =>
    obtain ⟨ks, rfl, h1, _⟩ := ho
    cases kvs with
    | nil => cases h
    | cons z r =>
      cases ks with
      | nil => cases h1
      | cons y s =>
        obtain ⟨d, v⟩ := z
        have h1 := (List.cons.inj h1).1
        have h1 : d = .tuple (y.1.map keyD) := h1
        subst h1
        cases h
        rfl
  | n =>
    obtain ⟨rs, kds, _, _, _, h1, _⟩ := ho
    cases kvs with
    | nil => cases h
    | cons z r =>
      obtain ⟨d, v⟩ := z
      have h1 : d = PyData.none := (List.cons.inj h1).1
      subst h1
      cases h
section
variable {κ : Type} [DecidableEq κ] {K : PySem.W.Frag} {G : Rg} {H : Hp}
theorem get_rel {f : κ → PyData} (hf : ∀ a b, eqK (f a) (f b) = decide (a = b)) (k : κ) : ∀ {ks : List (κ × V)} {kvs : List (PyData × PyData)}, kvs.map (·.1) = ks.map (fun z => f z.1) → DnA K G H (ks.map (·.2)) (kvs.map (·.2)) →
    (valV ks k = none ∧ getD kvs (f k) = none) ∨ ∃ v d, valV ks k = some v ∧ getD kvs (f k) = some d ∧ Dn K G H v d
  | [], [], _, _ => .inl ⟨rfl, rfl⟩
  | [], _ :: _, h, _ => by cases h
  | _ :: _, [], h, _ => by cases h
  | (y, u) :: ks, (x, w) :: kvs, h, hd => by
    have h1 : x = f y := (List.cons.inj h).1
    have h2 := (List.cons.inj h).2
    obtain ⟨d1, d2⟩ : Dn K G H u w ∧ DnA K G H (ks.map (·.2)) (kvs.map (·.2)) := by cases hd; exact ⟨‹_›, ‹_›⟩
    subst h1
    by_cases e : y = k
    · subst e
      exact .inr ⟨u, w, by simp [valV], by simp [getD, hf], d1⟩
    · have e1 : valV ((y, u) :: ks) k = valV ks k := by simp [valV, List.find?_cons, e]
      have e2 : getD ((f y, w) :: kvs) (f k) = getD kvs (f k) := by simp [getD, List.find?_cons, hf, e]
      rw [e1, e2]
      exact get_rel hf k h2 d2
theorem any_rel {f : κ → PyData} (hf : ∀ a b, eqK (f a) (f b) = decide (a = b)) (k : κ) : ∀ {ks : List (κ × V)} {kvs : List (PyData × PyData)}, kvs.map (·.1) = ks.map (fun z => f z.1) → (kvs.any fun z => eqK z.1 (f k)) = ks.any fun z => decide (z.1 = k)
  | [], [], _ => rfl
  | [], _ :: _, h => by cases h
  | _ :: _, [], h => by cases h
  | (y, u) :: ks, (x, w) :: kvs, h => by
    have h1 : x = f y := (List.cons.inj h).1
    subst h1
    simp only [List.any_cons, hf, any_rel hf k (List.cons.inj h).2]
theorem rep_rel {f : κ → PyData} (hf : ∀ a b, eqK (f a) (f b) = decide (a = b)) (k : κ) {v : V} {d : PyData} (hv : Dn K G H v d) : ∀ {ks : List (κ × V)} {kvs : List (PyData × PyData)}, kvs.map (·.1) = ks.map (fun z => f z.1) → DnA K G H (ks.map (·.2)) (kvs.map (·.2)) →
    (kvs.map (fun z => if eqK z.1 (f k) then (z.1, d) else z)).map (·.1) = (ks.map (fun z => if z.1 = k then (z.1, v) else z)).map (fun z => f z.1) ∧ DnA K G H ((ks.map (fun z => if z.1 = k then (z.1, v) else z)).map (·.2)) ((kvs.map (fun z => if eqK z.1 (f k) then (z.1, d) else z)).map (·.2))
  | [], [], _, _ => ⟨rfl, .nil⟩
  | [], _ :: _, h, _ => by cases h
  | _ :: _, [], h, _ => by cases h
  | (y, u) :: ks, (x, w) :: kvs, h, hd => by
    have h1 : x = f y := (List.cons.inj h).1
    obtain ⟨d1, d2⟩ : Dn K G H u w ∧ DnA K G H (ks.map (·.2)) (kvs.map (·.2)) := by cases hd; exact ⟨‹_›, ‹_›⟩
    subst h1
    obtain ⟨i1, i2⟩ := rep_rel hf k hv (List.cons.inj h).2 d2
    by_cases e : y = k
    · subst e
      simp only [List.map_cons, hf, decide_true, if_true]
      exact ⟨by rw [i1], .cons hv i2⟩
    · simp only [List.map_cons, hf, e, decide_false, if_false, Bool.false_eq_true]
      exact ⟨by rw [i1], .cons d1 i2⟩
theorem put_rel {f : κ → PyData} (hf : ∀ a b, eqK (f a) (f b) = decide (a = b)) (k : κ) {v : V} {d : PyData} (hv : Dn K G H v d) {ks : List (κ × V)} {kvs : List (PyData × PyData)} (h : kvs.map (·.1) = ks.map (fun z => f z.1)) (hd : DnA K G H (ks.map (·.2)) (kvs.map (·.2))) :
    (putD kvs (f k) d).map (·.1) = (putK ks k v).map (fun z => f z.1) ∧ DnA K G H ((putK ks k v).map (·.2)) ((putD kvs (f k) d).map (·.2)) := by
  unfold putD putK
  rw [any_rel hf k h]
  by_cases e : (ks.any fun z => decide (z.1 = k)) = true
  · rw [if_pos e, if_pos e]
    exact rep_rel hf k hv h hd
  · rw [if_neg e, if_neg e]
    simp only [List.map_append, h, List.map_cons, List.map_nil, true_and]
    exact hd.append (.cons hv .nil)
end
theorem hfK : ∀ a b : Key, eqK (keyD a) (keyD b) = decide (a = b) := eqK_keyD
theorem hfT : ∀ a b : List Key, eqK (.tuple (a.map keyD)) (.tuple (b.map keyD)) = decide (a = b) := eqKs_keyD
theorem dget_rel {K : PySem.W.Frag} {G : Rg} {H : Hp} {a : Addr} {o : HO} {t : Dk} {vs : List V} {kvs : List (PyData × PyData)} {y : V} {k : PyData} {G' : Rg} (hr : Rd H a o) (ho : DcO t a o (kvs.map (·.1)) vs) (hd : DnA K G H vs (kvs.map (·.2))) (hk : kOk t k = true) (hy : Dn K G' H y k) :
    (DGet H a y none ∧ getD kvs k = none) ∨ ∃ v d, DGet H a y (some v) ∧ getD kvs k = some d ∧ Dn K G H v d := by
  cases t with
  | k =>
    obtain ⟨ks, rfl, h1, rfl⟩ := ho
    cases e : dKey k with
    | none => simp [kOk, e] at hk
    | some kk =>
      have hv := dKey_ok e hy
      have he := dKey_eq e
      subst hv he
      rcases get_rel (f := keyD) hfK kk h1 hd with ⟨g1, g2⟩ | ⟨v, d, g1, g2, g3⟩
      · exact .inl ⟨.inl ⟨ks, kk, hr, rfl, g1.symm⟩, g2⟩
      · exact .inr ⟨v, d, .inl ⟨ks, kk, hr, rfl, g1.symm⟩, g2, g3⟩
  | t =>
    obtain ⟨ks, rfl, h1, rfl⟩ := ho
    cases k <;> try (simp [kOk] at hk; done)
    rename_i xs
    cases e : dKeys xs with
    | none => simp [kOk, e] at hk
    | some kk =>
      obtain ⟨b, ws, rfl, hb, hw⟩ := dn_tupleH hy
      have hv := dKeys_ok e hw
      have he := dKeys_eq e
      subst hv he
      rcases get_rel (f := fun z : List Key => .tuple (z.map keyD)) hfT kk h1 hd with ⟨g1, g2⟩ | ⟨v, d, g1, g2, g3⟩
      · exact .inl ⟨.inr ⟨ks, kk, b, hr, rfl, hb, g1.symm⟩, g2⟩
      · exact .inr ⟨v, d, .inr ⟨ks, kk, b, hr, rfl, hb, g1.symm⟩, g2, g3⟩
  | n => cases hk
theorem dput_rel {K : PySem.W.Frag} {G : Rg} {H : Hp} {a : Addr} {o : HO} {t : Dk} {vs : List V} {kvs : List (PyData × PyData)} {y v : V} {k d : PyData} {G' : Rg} (hr : H a = some o) (ho : DcO t a o (kvs.map (·.1)) vs) (hd : DnA K G H vs (kvs.map (·.2))) (hk : kOk t k = true) (hy : Dn K G' H y k) (hv : Dn K G H v d) (hl : kvs.length < sizeLine) :
    ∃ o' vs', DPut H a y v (upd H a o') ∧ DcO t a o' ((putD kvs k d).map (·.1)) vs' ∧ DnA K G H vs' ((putD kvs k d).map (·.2)) := by
  cases t with
  | k =>
    obtain ⟨ks, rfl, h1, rfl⟩ := ho
    cases e : dKey k with
    | none => simp [kOk, e] at hk
    | some kk =>
      have hv' := dKey_ok e hy
      have he := dKey_eq e
      subst hv' he
      obtain ⟨p1, p2⟩ := put_rel (f := keyD) hfK kk hv h1 hd
      have hlen : ks.length = kvs.length := by have := congrArg List.length h1; simpa using this.symm
      exact ⟨_, _, .inl ⟨ks, kk, hr, rfl, by rw [hlen]; exact hl, rfl⟩, ⟨_, rfl, p1, rfl⟩, p2⟩
  | t =>
    obtain ⟨ks, rfl, h1, rfl⟩ := ho
    cases k <;> try (simp [kOk] at hk; done)
    rename_i xs
    cases e : dKeys xs with
    | none => simp [kOk, e] at hk
    | some kk =>
      obtain ⟨b, ws, rfl, hb, hw⟩ := dn_tupleH hy
      have hv' := dKeys_ok e hw
      have he := dKeys_eq e
      subst hv' he
      obtain ⟨p1, p2⟩ := put_rel (f := fun z : List Key => .tuple (z.map keyD)) hfT kk hv h1 hd
      have hlen : ks.length = kvs.length := by have := congrArg List.length h1; simpa using this.symm
      exact ⟨_, _, .inr ⟨ks, kk, b, hr, rfl, hb, by rw [hlen]; exact hl, rfl⟩, ⟨_, rfl, p1, rfl⟩, p2⟩
  | n => cases hk
end PD
set_option Elab.async false
set_option linter.all false
set_option maxRecDepth 100000
set_option maxHeartbeats 4000000
set_option autoImplicit false
namespace PD
open PySem L2
theorem dn_dict {K : PySem.W.Frag} {G : Rg} {H : Hp} {v : V} {kvs : List (PyData × PyData)} (h : Dn K G H v (.dict kvs)) {t0 : Dk} (hk : kindD kvs = some t0) : ∃ a o t vs, v = .ref a ∧ (∃ ob, G a (.frz ob o)) ∧ DcO t a o (kvs.map (·.1)) vs ∧ DnA K G H vs (kvs.map (·.2)) := by
  cases h with
  | dct h1 h2 h3 => exact ⟨_, _, _, _, rfl, h1, h2, h3⟩
  | exc _ _ _ _ => cases hk
  | exc0 _ => cases hk
  | ins _ _ _ _ => cases hk
  | dcu _ _ _ => cases hk
section
variable {X : Cx} {W : WX} {sc : Scope} {N : List Str} {a b c e e2 o : Expr} {es : List Expr} {apos cpos pos p p2 : Pos} {k : DA} {f g : DF} {s : Stmt}
def dicA (Γ : List Sl) : AV → Option (Bool × Dk × List (PyData × PyData))
  | .d fr (.dict kvs) => (kindD kvs).map fun t => (fr, t, kvs)
  | .s j => match Γ[j]? with
    | some (.own (.dic t kvs)) => some (true, t, kvs)
    | some (.io (.dic t kvs)) => some (true, t, kvs)
    | _ => none
  | _ => none
theorem dicA_ok {Γ : List Sl} {x : AV} {z : Bool × Dk × List (PyData × PyData)} {G : Gh} {H : Hp} {σ : St} {v : V} (h : dicA Γ x = some z) (S : Sta X.K G H σ Γ) (hv : AVok X.K G H σ v x) : ∃ l o vs, v = .ref l ∧ Rd H l o ∧ DcO z.2.1 l o (z.2.2.map (·.1)) vs ∧ DnA X.K (rg G z.1) H vs (z.2.2.map (·.2)) := by
  unfold dicA at h
  split at h
  · rename_i fr kvs
    cases hk : kindD kvs with
    | none => rw [hk] at h; cases h
    | some t =>
      rw [hk] at h
      cases h
      obtain ⟨l, o, t', vs, rfl, h1, h2, h3⟩ := dn_dict hv hk
      have := kindD_ok hk h2
      subst this
      exact ⟨l, o, vs, rfl, .inr (h1.imp fun _ z => S.w.rgl fr _ _ z), h2, h3⟩
  · rename_i j
    obtain ⟨A, T⟩ := S
    have hv : σ[j]? = some (some v) := hv
    split at h
    · cases h
      obtain ⟨u, h1, _, p, o, vs, rfl, _, h3, h4, h5⟩ := T.sl j _ ‹_›
      rw [h1] at hv
      cases hv
      exact ⟨p, o, vs, rfl, .inl h3, h4, h5⟩
    · cases h
      obtain ⟨u, h1, _, p, o, vs, rfl, _, h3, h4, h5⟩ := T.sl j _ ‹_›
      rw [h1] at hv
      cases hv
      exact ⟨p, o, vs, rfl, .inl h3, h4, h5⟩
    · cases h
  · cases h
theorem rdD_av {Γ : List Sl} {x : AV} {d : PyData} {G : Gh} {H : Hp} {σ : St} {v : V} (h : rdD Γ x = some d) (S : Sta X.K G H σ Γ) (hv : AVok X.K G H σ v x) : Dn X.K (RgH H) H v d := (rdD_ok h).ok S hv
def rIxD : R2 := fun x y H Q => ∃ a v, x = .ref a ∧ DGet H a y (some v) ∧ Q v H
theorem ix_dict (hu : X.A.units + 1 < cLine) : IxR X rIxD := by
  intro value slice pins s σ H x y v u Q I rx ry h hs
  obtain ⟨a, w, rfl, g, q⟩ := h
  cases rx
  exact PyProof.Rows.tail_any (dict_typeIs I g) PySem.F.slot_dict_getitem.lookup (d_getItem hu I g ry fun w' s' I' rw' => ⟨w, H, I', rw', q⟩) hs
def ixB (Γ : List Sl) (x y : AV) : R AV := match dicA Γ x with
  | some z => match y with
    | .d _ kk => (R.req (kOk z.2.1 kk)).bind fun _ => (R.ofO (getD z.2.2 kk)).bind fun d => .val (.d z.1 d)
    | _ => .bad
  | none => ixA Γ x y
def dIxB (f g : DF) : DF := fun Γ => (f Γ).bind fun x => (g x.2).bind fun y => (ixB y.2 x.1 y.1).bind fun z => .val (z, y.2)
theorem ce_ixB (C : Cf0 X W sc N) (ha : CE X W a f) (hb : CE X W b g) (hs : PlainIx b := by exact fun _ _ => rfl) : CE X W (.Subscript a b pos) (dIxB f g) := fun Γ =>
  pe_imp (pe_ix ((ix_dict (u1 C)).or ix_seq) (ha Γ) (pe_any fun x : AV × List Sl => hb x.2) hs) fun σ H Q h => bin_rd (X := X) (W := W) (ava := Prod.fst) (Γa := Prod.snd) (avb := fun _ (y : AV × List Sl) => y.1) (Γb := fun _ (y : AV × List Sl) => y.2) (avk := Prod.fst) (Γk := Prod.snd) (k := fun (x : AV × List Sl) (y : AV × List Sl) => (ixB y.2 x.1 y.1).bind fun z => .val (z, y.2)) (fun x y G H σ u v Q S hu hv p => by
    obtain ⟨x, Γ1⟩ := x
    obtain ⟨y, Γ2⟩ := y
    simp only at hu hv S p
    unfold ixB at p
    split at p
    · rename_i z hz
      split at p
      · rename_i fr kk
        have hk : kOk z.2.1 kk = true := by
          cases hc : kOk z.2.1 kk with
          | true => rfl
          | false => rw [hc] at p; exact p.elim
        rw [hk] at p
        have p : Pst X W G H σ (((R.ofO (getD z.2.2 kk)).bind fun d => R.val (AV.d z.1 d)).bind fun z => .val (z, Γ2)) (fun z G' H' => ∀ (w : V), Sta X.K G' H' σ z.snd → AVok X.K G' H' σ w z.fst → Q w H') := p
        obtain ⟨d, hd⟩ : ∃ d, getD z.2.2 kk = some d := by
          cases hc : getD z.2.2 kk with
          | none => rw [hc] at p; exact p.elim
          | some d => exact ⟨d, rfl⟩
        rw [hd] at p
        obtain ⟨l, o, vs, rfl, h1, h2, h3⟩ := dicA_ok hz S hu
        rcases dget_rel h1 h2 h3 hk hv with ⟨_, g2⟩ | ⟨w, d', g1, g2, g3⟩
        · rw [hd] at g2; cases g2
        · rw [hd] at g2; cases g2
          exact .inl ⟨l, w, rfl, g1, p G H (Ext.rf S.w) w S g3⟩
      · exact p.elim
    · rename_i hnone
      clear hnone
      refine .inr ?_
      unfold ixA at p
      split at p
      · rename_i fr ds _ i
        cases hz : atI ds i with
        | none => rw [hz] at p; exact p.elim
        | some d =>
          rw [hz] at p
          obtain ⟨q, xs, rfl, g1, g2⟩ := dn_list hu
          obtain ⟨w, g3, g4⟩ := atI_dn g2 hz
          exact .inl ⟨q, xs, i, w, rfl, dn_int hv, (g1.mono (S.w.rgl fr)).sq, g3, p G H (Ext.rf S.w) w S g4⟩
      · rename_i fr ds _ i
        cases hz : atI ds i with
        | none => rw [hz] at p; exact p.elim
        | some d =>
          rw [hz] at p
          obtain ⟨q, xs, rfl, g1, g2⟩ := dn_tuple hu
          obtain ⟨w, g3, g4⟩ := atI_dn g2 hz
          exact .inr (.inl ⟨q, xs, i, w, rfl, dn_int hv, g1, g3, p G H (Ext.rf S.w) w S g4⟩)
      · rename_i j _ i
        split at p
        · rename_i ds hd
          cases hz : atI ds i with
          | none => rw [hz] at p; exact p.elim
          | some d =>
            rw [hz] at p
            obtain ⟨q, xs, rfl, g1, g2⟩ := S.slotL hd hu
            obtain ⟨w, g3, g4⟩ := atI_dn g2 hz
            exact .inl ⟨q, xs, i, w, rfl, dn_int hv, SqL.of g1, g3, p G H (Ext.rf S.w) w S g4⟩
        · exact p.elim
      · exact p.elim) h
def rInD (neg : Bool) : R2 := fun y x H Q => ∃ a o, x = .ref a ∧ DGet H a y o ∧ Q (.bl (o.isSome != neg)) H
theorem op_notInDict (hu : X.A.units + 1 < cLine) : OpR X (compareOp .NotIn) (rInD true) := by
  intro pins s σ H x y v u Q I rx ry h
  obtain ⟨a, o, rfl, g, q⟩ := h
  cases ry
  exact d_notIn hu I g rx fun s' I' => ⟨.bl (!o.isSome), H, I', rfl, by rw [Bool.bne_true] at q; exact q⟩
def kInB (Γ : List Sl) (x y : AV) : R Bool := match dicA Γ y with
  | some z => match rdD Γ x with
    | some kk => gq (kOk z.2.1 kk) (getD z.2.2 kk).isSome
    | none => .bad
  | none => kIn Γ x y
def kNinB (Γ : List Sl) (x y : AV) : R Bool := (kInB Γ x y).bind fun z => .val (!z)
theorem kInB_cases {G : Gh} {H : Hp} {σ : St} {Γ : List Sl} {x y : AV} {u v : V} (S : Sta X.K G H σ Γ) (hu : AVok X.K G H σ u x) (hv : AVok X.K G H σ v y) : kInB Γ x y = .bad ∨ ∃ z, kInB Γ x y = .val z ∧
    ((∃ l o, v = .ref l ∧ DGet H l u o ∧ z = o.isSome) ∨ (∃ d ds, Dp X.K H u d ∧ Dp X.K H v (.list ds) ∧ SeqAt.shaped d = true ∧ SeqAt.shaped (.list ds) = true ∧ z = ds.any fun z => PyData.eqv z d) ∨
     (∃ p xs, v = .ref p ∧ SqT X.K H p xs ∧ flatV u = true ∧ xs.all flatV = true ∧ z = inV u xs)) := by
  unfold kInB
  cases hz : dicA Γ y with
  | none =>
    rcases kIn_cases S hu hv with e | ⟨z, e, r⟩
    · exact .inl e
    · exact .inr ⟨z, e, .inr r⟩
  | some z =>
    cases hd : rdD Γ x with
    | none => exact .inl rfl
    | some kk =>
      cases hk : kOk z.2.1 kk with
      | false => left; simp only [hk]; rfl
      | true =>
        obtain ⟨l, o, vs, rfl, h1, h2, h3⟩ := dicA_ok hz S hv
        refine .inr ⟨(getD z.2.2 kk).isSome, by simp only [hk]; rfl, .inl ⟨l, ?_⟩⟩
        rcases dget_rel h1 h2 h3 hk (rdD_av hd S hu) with ⟨g1, g2⟩ | ⟨w, d', g1, g2, g3⟩
        · exact ⟨none, rfl, g1, by rw [g2]; rfl⟩
        · exact ⟨some w, rfl, g1, by rw [g2]; rfl⟩
theorem ce_notinB (C : Cf0 X W sc N) (ha : CE X W a f) (hb : CE X W b g) (hm : behindInMarks .NotIn b = false := by rfl) : CE X W (.Compare a [.NotIn] [b] pos) (dCmp kNinB f g) :=
  ce_cmp2 (fun x y Γ2 => boolR (kNinB Γ2 x y) Γ2) (opR_or (op_notInDict (u1 C)) (opR_or (op_notInD (u65 C)) op_notIn_seq)) hm ha hb fun x y Γ2 G H σ u v Q S hu hv p => by
    unfold kNinB at p
    rcases kInB_cases S hu hv with e | ⟨z, e, ⟨l, o, rfl, h1, rfl⟩ | ⟨d, ds, h1, h2, h3, h4, rfl⟩ | ⟨q, xs, rfl, h1, h2, h3, rfl⟩⟩
    · rw [e] at p; exact p.elim
    · rw [e] at p; exact .inl ⟨l, o, rfl, h1, by rw [Bool.bne_true]; exact Pk.v p S (.bl _)⟩
    · rw [e] at p; exact .inr (.inl ⟨d, ds, h1, h2, h3, h4, Pk.v p S (.bl _)⟩)
    · rw [e] at p; exact .inr (.inr ⟨q, xs, rfl, .inr h1, h2, h3, Pk.v p S (.bl _)⟩)
def cellC (Γ : List Sl) (i : Nat) : Option (Bool × Cl) := match Γ[i]? with
  | some (.own c) => some (false, c)
  | some (.io c) => some (true, c)
  | _ => none
theorem cellC_ok {Γ : List Sl} {i : Nat} {z : Bool × Cl} (h : cellC Γ i = some z) : Γ[i]? = some (mkS z.1 z.2) := by
  unfold cellC at h
  split at h
  · cases h; exact ‹_›
  · cases h; exact ‹_›
  · cases h
def putC : Cl → PyData → PyData → Option Cl
  | .lst ds, .int k, v => (ixN ds.length k).map fun j => .lst (ds.set j v)
  | .dic t kvs, k, v => if kOk t k && decide (kvs.length < sizeLine) then some (.dic t (putD kvs k v)) else none
  | _, _, _ => none
theorem putC_cases {c c' : Cl} {k v : PyData} (h : putC c k v = some c') : (∃ ds k' j, c = .lst ds ∧ k = .int k' ∧ ixN ds.length k' = some j ∧ c' = .lst (ds.set j v)) ∨ ∃ t kvs, c = .dic t kvs ∧ kOk t k = true ∧ kvs.length < sizeLine ∧ c' = .dic t (putD kvs k v) := by
  unfold putC at h
  split at h
  · rename_i ds k'
    cases hj : ixN ds.length k' with
    | none => rw [hj] at h; cases h
    | some j => rw [hj] at h; cases h; exact .inl ⟨ds, k', j, rfl, rfl, hj, rfl⟩
  · rename_i t kvs
    split at h
    · rename_i hc
      cases h
      rw [Bool.and_eq_true] at hc
      exact .inr ⟨t, kvs, rfl, hc.1, of_decide_eq_true hc.2, rfl⟩
    · cases h
  · cases h
def bPut (i : Nat) (fe fi : DF) : DS := fun Γ => (dFrz fe Γ).bind fun z => (R.ofO (cellC z.2 i)).bind fun _ => (fi z.2).bind fun y => (R.ofO (cellC y.2 i)).bind fun c => match z.1, y.1 with
  | .d true v, .d _ kk => (R.ofO (putC c.2 kk v)).bind fun c' => .val (.nx, y.2.set i (mkS c.1 c'))
  | _, _ => .bad
theorem tup_mut {H : Hp} {p : Addr} {o o' : HO} (h : H p = some o) (ht : ∀ xs, o ≠ .tup xs) : TupLe H (upd H p o') := fun a xs e => by
  have : a ≠ p := fun q => by rw [q, h] at e; exact ht xs (Option.some.inj e)
  rw [upd_ne this]; exact e
theorem c1_put (C : Cf0 X W sc N) (i : Nat) {x : Str} {p' tpos : Pos} {fe fi : DF} (hN : N[i]? = some x) (hv : visB sc x = true) (he : CE X W e fe) (hi : CE X W b fi) (hd : (x == ("__debug__" : Str)) = false := by decide +kernel) (hcd : (x == ("__classdict__" : Str)) = false := by decide +kernel)
    (has : ∀ v, assign (.Subscript (.Name x p') b tpos) X.env v = (do
      let ov ← holding [v] (eval (.Name x p') X.env)
      let iv ← holding [v, ov] (eval b X.env)
      standAt tpos
      holding [v, ov, iv] (setItem ov iv v)
      release [v, ov, iv] []) := by intro _; rfl)
    (hs : swapsWithSole [.Subscript (.Name x p') b tpos] e pos.line X.env = pure false := by rfl) (hw : swappedStores [.Subscript (.Name x p') b tpos] e X.env = pure none := by rfl) (h1 : (assignEach [.Subscript (.Name x p') b tpos] X.env).map (·.2) = [assign (.Subscript (.Name x p') b tpos) X.env] := by rfl) :
    C1 X W (.Assign [.Subscript (.Name x p') b tpos] e pos) (bPut i fe fi) := fun Γ =>
  ps_imp (ps_asg (ce_frz he Γ) (pg_sub (pe_any fun z : {z : AV × List Sl // (cellC z.2 i).isSome} => evp_cell (W := W) (c := ((cellC z.1.2 i).get z.2).2) C (cellC_ok (Option.some_get _).symm) hN hv hd hcd) (pe_any fun z : AV × List Sl => hi z.2) (set_or set_list (set_dict (u1 C))) has) hs hw h1) fun D σ H ⟨G, S, p⟩ => ⟨G, S, (Pst.bind p).imp fun z G1 H1 e1 p1 v S1 a1 => by
    obtain ⟨c0, hc0, p1⟩ := Pst.ofO p1
    refine ⟨⟨z, by rw [hc0]; rfl⟩, G1, S1, fun G2 H2 e2 u S2 hu => ⟨z, G2, S2, (Pst.bind (Pst.ext p1 e2)).imp fun y G3 H3 e3 p3 w S3 hw3 => ?_⟩⟩
    obtain ⟨c, hc, p3⟩ := Pst.ofO p3
    have hu : σ[i]? = some (some u) := hu
    obtain ⟨u', fp, g1, g2, g3⟩ := S3.chg1 i c.1 (cellC_ok hc)
    rw [hu] at g1
    cases g1
    have a1 := a1.ext (e2.tr e3)
    split at p3
    · rename_i vd fr kk hz hy
      rw [hz] at a1
      rw [hy] at hw3
      obtain ⟨c', hc', p3⟩ := Pst.ofO p3
      have a1 : Dn X.K (rg G3 true) H3 v vd := a1
      have hw3 : Dn X.K (rg G3 fr) H3 w kk := hw3
      have fin : ∀ H4, Sta X.K G3 H4 σ (y.2.set i (mkS c.1 c')) ∧ Ext G3 H3 G3 H4 → D.nx σ H4 := fun H4 ⟨S4, e4⟩ => p3 G3 H4 e4 σ S4
      obtain ⟨io, cc⟩ := c
      have g2 : cc.ok X.K (rg G3 true) H3 u fp := g2
      rcases putC_cases hc' with ⟨ds, k', j, e1, rfl, hj, rfl⟩ | ⟨t, kvs, e1, hk, hl, rfl⟩
      · have e1 : cc = .lst ds := e1
        subst e1
        obtain ⟨q, vs, rfl, hfp, hq, hd'⟩ := g2
        refine .inl ⟨q, vs, k', j, rfl, dn_int hw3, hq, by rw [hd'.length]; exact hj, fin _ (g3 q _ _ _ hfp hq (fun _ h => by cases h) (fun _ _ h => by cases h) ⟨q, _, rfl, rfl, upd_same, ?_⟩)⟩
        exact (DnA.set a1 j hd').mono (fun _ _ z => z) (tup_mut hq (fun _ h => by cases h))
      · have e1 : cc = .dic t kvs := e1
        subst e1
        obtain ⟨q, o, vs, rfl, hfp, hq, ho, hd'⟩ := g2
        obtain ⟨o', vs', k1, k2, k3⟩ := dput_rel hq ho hd' hk hw3 a1 hl
        have nt : (∀ xs, o ≠ .tup xs) ∧ ∀ x y, o ≠ .frz x y := by
          cases t with
          | k => obtain ⟨_, rfl, _⟩ := ho; exact ⟨fun _ h => (by cases h), fun _ _ h => (by cases h)⟩
          | t => obtain ⟨_, rfl, _⟩ := ho; exact ⟨fun _ h => (by cases h), fun _ _ h => (by cases h)⟩
          | n => cases hk
        exact .inr ⟨q, _, rfl, k1, fin _ (g3 q _ _ _ hfp hq nt.1 nt.2 ⟨q, o', vs', rfl, rfl, upd_same, k2, k3.mono (fun _ _ z => z) (tup_mut hq nt.1)⟩)⟩
    · exact p3.elim⟩
end
end PD
set_option Elab.async false
set_option linter.all false
set_option maxRecDepth 100000
set_option maxHeartbeats 4000000
set_option autoImplicit false
namespace PD
open PySem L2
section
variable {X : Cx} {W : WX} {sc : Scope} {N : List Str} {a b c e e2 e3 o tg : Expr} {es : List Expr} {apos cpos pos p p1 p2 p3 : Pos} {k : DA} {f g h : DF} {s : Stmt}
def intS : Option Sl → Option Int
  | some (.dat _ (.int i)) => some i
  | _ => none
def bInc (i : Nat) (fe : DF) : DS := fun Γ => (R.ofO (intS Γ[i]?)).bind fun n => (fe Γ).bind fun z => (R.ofO (intA z.1)).bind fun m => .val (.nx, z.2.set i (.dat true (.int (n + m))))
theorem c1_inc (C : Cf0 X W sc N) (i : Nat) {x : Str} {p' : Pos} {fe : DF} (hN : N[i]? = some x) (hv : Sto X sc x) (he : CE X W e fe) : C1 X W (.AugAssign (.Name x p') .Add e pos) (bInc i fe) := fun Γ => by
  have hx : Loc X.env.scope x := by rw [C.hsc]; exact hv.1
  refine ps_imp (ps_aug (i := i) (by rw [C.hN]; exact C.nd) (by rw [C.hN]; exact hN) hx (he Γ) iop_add (by rw [C.hsc]; exact hv.2)) fun D σ H ⟨G, S, p⟩ => ?_
  obtain ⟨n, hn, p⟩ := Pst.ofO p
  obtain ⟨A, T⟩ := id S
  have hs : ∃ fr, Γ[i]? = some (.dat fr (.int n)) := by
    unfold intS at hn
    split at hn
    · cases hn; exact ⟨_, ‹_›⟩
    · cases hn
  obtain ⟨fr, hs⟩ := hs
  obtain ⟨_, v, q1, q2⟩ := T.sl i _ hs
  refine ⟨v, q1, G, S, (Pst.bind p).imp fun z G1 H1 e1 p1 u S1 h2 => ?_⟩
  obtain ⟨m, hm, p1⟩ := Pst.ofO p1
  exact ⟨n, m, dn_int q2, intA_ok hm h2, p1 G1 H1 (Ext.rf S1.w) _ (S1.put i (.int _))⟩
end
end PD
set_option Elab.async false
set_option linter.all false
set_option maxRecDepth 100000
set_option maxHeartbeats 4000000
set_option autoImplicit false
namespace PD
open PySem L2
theorem Sta.feed {K : PySem.W.Frag} {G : Gh} {H : Hp} {σ : St} {Γ : List Sl} {f : Fd} (S : Sta K G H σ Γ) (i : Nat) (io : Bool) (hi : Γ[i]? = some (mkS io (.feed f))) :
    ∃ d l, σ[i]? = some (some (.ref d)) ∧ d ≠ l ∧ H d = some (.dK (fdK l f.2.1 f.2.2)) ∧ H l = some (.lst (f.1.map V.int)) ∧
      (∀ t s, Sta K G (upd H d (.dK (fdK l t s))) σ (Γ.set i (mkS io (.feed (f.1, t, s)))) ∧ Ext G H G (upd H d (.dK (fdK l t s)))) ∧
      (∀ ns : List Int, Sta K G (upd H l (.lst (ns.map V.int))) σ (Γ.set i (mkS io (.feed (ns, f.2)))) ∧ Ext G H G (upd H l (.lst (ns.map V.int)))) ∧
      (∀ l' (ns : List Int), H l' = none → Sta K G (upd (upd H l' (.lst (ns.map V.int))) d (.dK (fdK l' f.2.1 f.2.2))) σ (Γ.set i (mkS io (.feed (ns, f.2)))) ∧ Ext G H G (upd (upd H l' (.lst (ns.map V.int))) d (.dK (fdK l' f.2.1 f.2.2)))) := by
  obtain ⟨A, T⟩ := S
  have hlt : i < Γ.length := (List.getElem?_eq_some_iff.mp hi).1
  have key : ∃ d l, σ[i]? = some (some (.ref d)) ∧ A i = [d, l] ∧ d ≠ l ∧ H d = some (.dK (fdK l f.2.1 f.2.2)) ∧ H l = some (.lst (f.1.map V.int)) ∧
      ∀ (G' : Gh) (H' : Hp) (f' : Fd) (fp' : List Addr), G'.I = G.I → G'.H0 = G.H0 → (Cl.feed f').ok K (RgN G') H' (.ref d) fp' → (∀ p ∈ fp', p ∈ A i ∨ G.H0 p = none) → SlOk K G' H' i σ[i]? fp' (mkS io (.feed f')) := by
    have hs := T.sl i _ hi
    cases io with
    | true =>
      obtain ⟨v, h1, h2, d, l, rfl, h3, h4, h5, h6⟩ := hs
      exact ⟨d, l, h1, h3, h4, h5, h6, fun G' H' f' fp' gi _ ok _ => ⟨_, h1, by rw [gi]; exact h2, ok⟩⟩
    | false =>
      obtain ⟨v, h1, h2, d, l, rfl, h3, h4, h5, h6⟩ := hs
      refine ⟨d, l, h1, h3, h4, h5, h6, fun G' H' f' fp' _ g0 ok hp => ⟨_, h1, fun p hp' => ?_, ok⟩⟩
      rw [g0]
      rcases hp p hp' with q | q
      · exact h2 p q
      · exact q
  obtain ⟨d, l, h1, hA, hne, hd, hl, mk⟩ := key
  have ad := T.al i d (by rw [hA]; simp)
  have al := T.al i l (by rw [hA]; simp)
  refine ⟨d, l, h1, hne, hd, hl, fun t s => ?_, fun ns => ?_, fun l' ns hl' => ?_⟩
  · refine T.step (i := i) (fp' := [d, l]) (grow_mut T.w hd ad.2.1 (fun _ => by simp) (fun _ _ => by simp)) (fun p hp => by rw [hA]; simp at hp; simp [hp]) (fun _ _ => rfl) rfl (fun _ => mk _ _ _ _ rfl rfl ⟨d, l, rfl, rfl, hne, upd_same, by rw [upd_ne (Ne.symm hne)]; exact hl⟩ fun p hp => .inl (by rw [hA]; exact hp)) (fun p hp => ?_)
    simp only [List.mem_cons, List.not_mem_nil, or_false] at hp
    rcases hp with rfl | rfl
    · exact ⟨by rw [upd_same]; simp, ad.2.1, .inl (by rw [hA]; simp)⟩
    · exact ⟨by rw [upd_ne (Ne.symm hne), hl]; simp, al.2.1, .inl (by rw [hA]; simp)⟩
  · refine T.step (i := i) (fp' := [d, l]) (grow_mut T.w hl al.2.1 (fun _ => by simp) (fun _ _ => by simp)) (fun p hp => by rw [hA]; simp at hp; simp [hp]) (fun _ _ => rfl) rfl (fun _ => mk _ _ _ _ rfl rfl ⟨d, l, rfl, rfl, hne, by rw [upd_ne hne]; exact hd, upd_same⟩ fun p hp => .inl (by rw [hA]; exact hp)) (fun p hp => ?_)
    simp only [List.mem_cons, List.not_mem_nil, or_false] at hp
    rcases hp with rfl | rfl
    · exact ⟨by rw [upd_ne hne, hd]; simp, ad.2.1, .inl (by rw [hA]; simp)⟩
    · exact ⟨by rw [upd_same]; simp, al.2.1, .inl (by rw [hA]; simp)⟩
  · obtain ⟨fN, f0, _⟩ := T.w.fresh hl'
    have hdl : d ≠ l' := fun e => by rw [e, hl'] at hd; cases hd
    have g : Grow G H G.N (upd (upd H l' (.lst (ns.map V.int))) d (.dK (fdK l' f.2.1 f.2.2))) [d] := by
      refine ⟨fun a x e hp => ?_, fun a ha => ?_, fun a xs e => ?_, fun _ _ e => e, fun a x e => ⟨?_, .inl e⟩⟩
      · have h2 : a ≠ d := by simpa using hp
        have h3 : a ≠ l' := fun q => by rw [q, hl'] at e; cases e
        rw [upd_ne h2, upd_ne h3]; exact e
      · have : a = d := by simpa using ha
        rw [this, upd_same]; simp
      · have h3 : a ≠ l' := fun q => by rw [q, hl'] at e; cases e
        have h2 : a ≠ d := fun q => by rw [q, hd] at e; cases e
        rw [upd_ne h2, upd_ne h3]; exact e
      · have h2 : a ≠ d := fun q => by rw [q, ad.2.1] at e; cases e
        have h3 : a ≠ l' := fun q => by rw [q, fN] at e; cases e
        rw [upd_ne h2, upd_ne h3]; exact (T.w.new a x e).1
    refine T.step (i := i) (fp' := [d, l']) g (fun p hp => by rw [hA]; simp at hp; simp [hp]) (fun _ _ => rfl) rfl (fun _ => mk _ _ _ _ rfl rfl ⟨d, l', rfl, rfl, hdl, upd_same, by rw [upd_ne (Ne.symm hdl), upd_same]⟩ fun p hp => ?_) (fun p hp => ?_)
    · simp only [List.mem_cons, List.not_mem_nil, or_false] at hp
      rcases hp with rfl | rfl
      · exact .inl (by rw [hA]; simp)
      · exact .inr f0
    · simp only [List.mem_cons, List.not_mem_nil, or_false] at hp
      rcases hp with rfl | rfl
      · exact ⟨by rw [upd_same]; simp, ad.2.1, .inl (by rw [hA]; simp)⟩
      · exact ⟨by rw [upd_ne (Ne.symm hdl), upd_same]; simp, fN, .inr hl'⟩
structure EqT {α : Type} [DecidableEq α] (enc : α → PyData) (k : Nat) : Prop where
  lay : ∀ x, (enc x).canLay0 = true
  dep : ∀ x, (enc x).depth ≤ k
  eq : ∀ x y, PyData.eqv (enc x) (enc y) = decide (x = y)
theorem eqt_int : EqT PyData.int 0 := ⟨fun _ => rfl, fun _ => Nat.le_refl _, fun x y => by show (x == y) = _; rfl⟩
theorem eqt_bool : EqT PyData.bool 0 := ⟨fun _ => rfl, fun _ => Nat.le_refl _, fun x y => by cases x <;> cases y <;> rfl⟩
section
variable {α β γ : Type} [DecidableEq α] [DecidableEq β] [DecidableEq γ] {e1 : α → PyData} {e2 : β → PyData} {e3 : γ → PyData} {k k2 k3 : Nat}
theorem EqT.layA (h : EqT e1 k) : ∀ xs : List α, PyData.canLayAll0 (xs.map e1) = true
  | [] => rfl
  | x :: xs => by simp [PyData.canLayAll0, h.lay x, EqT.layA h xs]
theorem EqT.depA (h : EqT e1 k) : ∀ xs : List α, PyData.depthAll (xs.map e1) ≤ k
  | [] => Nat.zero_le _
  | x :: xs => by
    have a := h.dep x
    have b := EqT.depA h xs
    simp only [List.map_cons, PyData.depthAll]
    omega
theorem EqT.eqA (h : EqT e1 k) : ∀ xs ys : List α, PyData.eqvAll (xs.map e1) (ys.map e1) = decide (xs = ys)
  | [], [] => rfl
  | [], y :: ys => by simp [PyData.eqvAll]
  | x :: xs, [] => by simp [PyData.eqvAll]
  | x :: xs, y :: ys => by simp [PyData.eqvAll, h.eq x y, EqT.eqA h xs ys]
theorem eqt_list (h : EqT e1 k) : EqT (fun xs : List α => PyData.list (xs.map e1)) (k + 1) :=
  ⟨fun xs => by simpa [PyData.canLay0] using h.layA xs, fun xs => by simpa [PyData.depth] using h.depA xs, fun xs ys => by simpa [PyData.eqv] using h.eqA xs ys⟩
theorem eqt_tup (h : EqT e1 k) : EqT (fun xs : List α => PyData.tuple (xs.map e1)) (k + 1) :=
  ⟨fun xs => by simpa [PyData.canLay0] using h.layA xs, fun xs => by simpa [PyData.depth] using h.depA xs, fun xs ys => by simpa [PyData.eqv] using h.eqA xs ys⟩
theorem EqT.sh (h : EqT e1 k) (hk : k ≤ 64) (x : α) : SeqAt.shaped (e1 x) = true := by
  unfold SeqAt.shaped
  rw [h.lay x, Bool.true_and]
  exact decide_eq_true (Nat.le_trans (h.dep x) hk)
end
section
variable {X : Cx} {W : WX} {sc : Scope} {N : List Str} {e : Expr} {pos p p2 p3 : Pos} {x : Str} {fe : DF}
end
end PD
set_option Elab.async false
set_option linter.all false
set_option maxRecDepth 100000
set_option maxHeartbeats 4000000
set_option autoImplicit false
namespace PD
open PySem L2
section
variable {X : Cx} {W : WX} {sc : Scope} {N : List Str} {pos : Pos} {x : Str}
end
end PD
set_option Elab.async false
set_option linter.all false
set_option maxRecDepth 100000
set_option maxHeartbeats 4000000
set_option autoImplicit false
namespace PD
open PySem L2
def Gv (P : Program) (w : World) (K : PySem.W.Frag) (mg : Str → Option Value) (base : Heap) (k : Nat) (x : Str) (dvs : List V) (sp : Sp) : Prop :=
  ∃ (f : Addr) (fd : FuncData) (ps : List Str) (ds : List Value), FnOk P w K mg base (L2.CX P w) k f fd ps sp ∧ mg x = some (.ref f) ∧ PySem.W.keepIn K (.ref f) = true ∧ Binds K fd ps ds ∧ Vals dvs ds
theorem Gv.clee {P : Program} {w : World} {K : PySem.W.Frag} {mg : Str → Option Value} {base : Heap} {k k' : Nat} {x : Str} {dvs : List V} {sp : Sp} {X : Cx} {W : WX} {scope : Scope} {N : List Str} (g : Gv P w K mg base k x dvs sp) (h : Here X W P w K mg base scope N k') (hk : k ≤ k') : Clee X x dvs sp := by
  obtain ⟨f, fd, ps, ds, h1, h2, h3, h4, h5⟩ := g
  refine ⟨k, f, fd, ps, ds, ?_, h.room.mono hk, ?_, ?_, ?_, h5⟩
  · rw [h.prog, h.w, h.K, h.mg, h.base]; exact h1
  · rw [h.mg]; exact h2
  · rw [h.K]; exact h3
  · rw [h.K]; exact h4
theorem Gv.of {P : Program} {w : World} {K : PySem.W.Frag} {mg : Str → Option Value} {base : Heap} {k : Nat} {x x' qual : Str} {params : Arguments} {body : List Stmt} {scope : Scope} {dvs : List V} {kws : List (Str × V)} {f : Addr} {fd : FuncData} {ps : List Str} {dv : List V} {ds : List Value} {sp : Sp}
    (F : FunD K x qual params body scope dvs kws f fd) (hm : mg x' = some (.ref f)) (ok : FnOk P w K mg base (L2.CX P w) k f fd ps sp) (b : Binds K fd ps ds) (hv : Vals dv ds) : Gv P w K mg base k x' dv sp := ⟨f, fd, ps, ds, ok, hm, F.kp, b, hv⟩
section
variable {X : Cx} {W : WX} {sc : Scope} {N : List Str} {a b c e : Expr} {es : List Expr} {pos p : Pos} {Γ : List Sl}
theorem kbinds1 {K : PySem.W.Frag} {x qual : Str} {params : Arguments} {body : List Stmt} {scope : Scope} {dvs : List V} {kws : List (Str × V)} {f : Addr} {fd : FuncData} {ps : List Str} (F : FunD K x qual params body scope dvs kws f fd) (n j : Nat) (ks : List Str) (hd : dvs ≠ [])
    (h : ∀ (T : Addr) (kV doc pm : Value) (an : Option Addr) (cdv ct : Value) (us its ws : List Value), us.length = n → its.length = dvs.length → ws.length = ks.length →
      ∃ k, bindArgs (PySem.W.fnOf x qual params body scope (.ref T) kV doc pm an cdv ct) ⟨us, ks.zip ws⟩ = seqItems? (.ref T) >>= k ∧ k (some its.toArray) = pure (ps.zip (us ++ ws ++ its.drop j))) :
    ∃ its : List Value, KBn K fd ps n ks (fun us ws => us ++ ws ++ its) (fun vs zs => vs ++ zs ++ dvs.drop j) := by
  obtain ⟨oc, od, dV, kV, doc, pm, an, cdv, ct, osl, rfl, lk, hcd, hD, hK⟩ := F.ex
  rcases hD with ⟨e, _⟩ | ⟨_, T, o, its, m, rfl, lT, oT, rT⟩
  · exact absurd e hd
  · refine ⟨its.drop j, ⟨fun s us ws X l1 l2 => ?_, fun r1 r2 => (r1.append r2).append (rT.drop j)⟩⟩
    obtain ⟨k, e1, e2⟩ := h T kV doc pm an cdv ct us its ws l1 rT.length.symm l2
    refine BindsTo.of_looks fun M => ?_
    rw [e1]
    exact looks_items X lT oT (.of_pure e2)
def GvK (P : Program) (w : World) (K : PySem.W.Frag) (mg : Str → Option Value) (base : Heap) (k : Nat) (x : Str) (n : Nat) (ks : List Str) (dvs : List V) (sp : Sp) : Prop :=
  ∃ (f : Addr) (fd : FuncData) (ps : List Str) (its : List Value), FnOk P w K mg base (L2.CX P w) k f fd ps sp ∧ mg x = some (.ref f) ∧ PySem.W.keepIn K (.ref f) = true ∧ KBn K fd ps n ks (fun us ws => us ++ ws ++ its) (fun vs zs => vs ++ zs ++ dvs)
def CleeK (X : Cx) (x : Str) (n : Nat) (ks : List Str) (dvs : List V) (sp : Sp) : Prop :=
  ∃ (k : Nat) (f : Addr) (fd : FuncData) (ps : List Str) (its : List Value), FnOk X.prog X.w X.K X.mg X.base (L2.CX X.prog X.w) k f fd ps sp ∧ Room k X.A ∧ X.mg x = some (.ref f) ∧ PySem.W.keepIn X.K (.ref f) = true ∧ KBn X.K fd ps n ks (fun us ws => us ++ ws ++ its) (fun vs zs => vs ++ zs ++ dvs)
theorem GvK.clee {P : Program} {w : World} {K : PySem.W.Frag} {mg : Str → Option Value} {base : Heap} {k k' : Nat} {x : Str} {n : Nat} {ks : List Str} {dvs : List V} {sp : Sp} {scope : Scope} (g : GvK P w K mg base k x n ks dvs sp) (h : Here X W P w K mg base scope N k') (hk : k ≤ k') : CleeK X x n ks dvs sp := by
  obtain ⟨f, fd, ps, its, g1, g2, g3, g4⟩ := g
  refine ⟨k, f, fd, ps, its, ?_, h.room.mono hk, ?_, ?_, ?_⟩
  · rw [h.prog, h.w, h.K, h.mg, h.base]; exact g1
  · rw [h.mg]; exact g2
  · rw [h.K]; exact g3
  · rw [h.K]; exact g4
theorem CleeK.blk {x : Str} {n : Nat} {ks : List Str} {dvs : List V} {sp : Sp} (h : CleeK X x n ks dvs sp) {s : Shared} {H : Hp} {scope : Scope} {ce : Env} {fp : List Addr} : CleeK (X.blk s H scope ce fp) x n ks dvs sp := h
theorem Gv.u {P : Program} {w : World} {K : PySem.W.Frag} {mg : Str → Option Value} {base : Heap} {k k' : Nat} {x : Str} {dvs : List V} {m : List Ar → R (Rs × List Sl)} {scope : Scope} (g : Gv P w K mg base k x dvs (spU K mg m)) (h : Here X W P w K mg base scope N k') (hk : k ≤ k') : Clee X x dvs (spU X.K X.mg m) := by
  have := g.clee h hk
  rw [h.K, h.mg]
  exact this
theorem GvK.u {P : Program} {w : World} {K : PySem.W.Frag} {mg : Str → Option Value} {base : Heap} {k k' : Nat} {x : Str} {n : Nat} {ks : List Str} {dvs : List V} {m : List Ar → R (Rs × List Sl)} {scope : Scope} (g : GvK P w K mg base k x n ks dvs (spU K mg m)) (h : Here X W P w K mg base scope N k') (hk : k ≤ k') : CleeK X x n ks dvs (spU X.K X.mg m) := by
  have := g.clee h hk
  rw [h.K, h.mg]
  exact this
theorem cs_bad {ss : List Stmt} : CS X W ss bBad := fun Γ => ⟨fun pins s σ H D I ⟨G, S, p⟩ => p.elim⟩
def CK (X : Cx) (W : WX) (kws : List Keyword) (f : DA) : Prop := ∀ Γ, PK X kws (rdA X W Γ (f Γ) Prod.fst Prod.snd)
theorem pk_imp {kws : List Keyword} {t t' : TA} (h : PK X kws t) (k : ∀ σ H Q, t' σ H Q → t σ H Q) : PK X kws t' := ⟨fun pos pins s σ H Q I q => h.run pos pins s σ H Q I (k σ H Q q)⟩
theorem pk_any {kws : List Keyword} {α : Type} {t : α → TA} (h : ∀ x, PK X kws (t x)) : PK X kws (fun σ H Q => ∃ x, t x σ H Q) := ⟨fun pos pins s σ H Q I ⟨x, q⟩ => (h x).run pos pins s σ H Q I q⟩
theorem ck_nil : CK X W [] dA0 := fun Γ => pk_imp (pk_nil : PK X [] tNil) fun σ H Q ⟨G, S, q⟩ => q G H (Ext.rf S.w) [] S .nil
theorem ck_cons {nm : Option Str} {kpos : Pos} {kws : List Keyword} {f : DF} {k : DA} (ha : CE X W e f) (hk : CK X W kws k) : CK X W (⟨nm, e, kpos⟩ :: kws) (dAc f k) := fun Γ =>
  pk_imp (pk_cons (nm := nm) (kpos := kpos) (ha Γ) (pk_any fun x : AV × List Sl => hk x.2)) fun σ H Q ⟨G, S, q⟩ => ⟨G, S, (Pst.bind q).imp fun x G1 H1 e1 q1 v S1 a1 => ⟨x, G1, S1, (Pst.bind q1).imp fun y G2 H2 e2 q2 vs S2 a2 => q2 G2 H2 (Ext.rf S2.w) (v :: vs) S2 (.cons (a1.ext e2) a2)⟩⟩
section
variable {x : Str} {dvs : List V} {dds : List PyData} {m : List Ar → R (Rs × List Sl)} {kws : List Keyword} {ks : List Str} {n : Nat} {k kk : DA}
theorem passF {E : XK} : Passes (L2.CX X.prog X.w) X (fun _ _ _ => False) := by
  intro pins σ H s e s' I c
  obtain ⟨_, _, _, _, _, _, _, _, _, _, _, _, z⟩ := c
  exact z.elim
theorem callD_nox {W' : WX} {Γ : List Sl} {G : Gh} {H : Hp} {σ : St} {as : List AV} {ds : List PyData} {vs : List V} {Q : VK} (hdv : ∀ G H, DnA X.K G H dvs dds) (S : Sta X.K G H σ Γ) (av : AVs X.K G H σ vs as) (hd : rdDs Γ none as = some ds)
    (hp : Pst X W' G H σ (m ((ds ++ dds).map Ar.d)).nox fun z G' H' => Sta X.K G' H' σ Γ → RsOk X.K G'.N H' Q z.1) : spU X.K X.mg m (vs ++ dvs) H Q (fun cls d H => False) := by
  refine callD_core (W := fun _ _ _ _ => False) (dds := dds) hdv S av hd ?_
  cases hm : m ((ds ++ dds).map Ar.d) with
  | bad => rw [hm] at hp; exact hp
  | exc y => rw [hm] at hp; exact hp.elim
  | val z => rw [hm] at hp; exact hp
theorem AVs.append {K : PySem.W.Frag} {G : Gh} {H : Hp} {σ : St} : ∀ {vs us : List V} {as bs : List AV}, AVs K G H σ vs as → AVs K G H σ us bs → AVs K G H σ (vs ++ us) (as ++ bs)
  | _, _, _, _, .nil, h => h
  | _, _, _, _, .cons q r, h => .cons q (AVs.append r h)
end
end
end PD
set_option Elab.async false
set_option linter.all false
set_option maxRecDepth 100000
set_option maxHeartbeats 4000000
set_option autoImplicit false
namespace PD
open PySem L2
abbrev DX := List Sl → R (Rs × List Sl)
def FinX (K : PySem.W.Frag) (G : Gh) (H : Hp) (σ : St) (Γ : List Sl) (Q : VK) : Rs → Prop
  | .d x => ∀ v, Sta K G H σ Γ → Dn K (rg G true) H v x → Q v H
  | .c c => ∀ v H2, Sta K G H σ Γ → NewC K (rg G true) H c v H2 → Q v H2
def rdX (X : Cx) (W : WX) (Γ : List Sl) (m : R (Rs × List Sl)) : TE := fun σ H Q => ∃ G, Sta X.K G H σ Γ ∧ Pst X W G H σ m fun r G' H' => FinX X.K G' H' σ r.2 Q r.1
def CX (X : Cx) (W : WX) (e : Expr) (f : DX) : Prop := ∀ Γ, PE X e (rdX X W Γ (f Γ))
section
variable {X : Cx} {W : WX} {sc : Scope} {N : List Str} {e : Expr} {es : List Expr} {pos p : Pos} {x : Str} {dvs : List V} {dds : List PyData} {m : List Ar → R (Rs × List Sl)} {kws : List Keyword} {ks : List Str} {n : Nat} {k kk : DA} {f : DX}
def xC (n : DC) : DX := fun Γ => (n Γ).bind fun z => .val (.c z.1, z.2)
theorem cx_c {n : DC} (h : CC X W e n) : CX X W e (xC n) := fun Γ => pe_imp (h Γ) fun σ H Q ⟨G, S, q⟩ => ⟨G, S, (Pst.bind q).imp fun z G1 H1 e1 p1 v H2 S1 nc => p1 G1 H1 (Ext.rf S1.w) v H2 S1 nc⟩
def xCall (m : List Ar → R (Rs × List Sl)) (dds : List PyData) (k : DA) : DX := fun Γ => (k Γ).bind fun z => (R.ofO (rdDs z.2 none z.1)).bind fun ds => ((m ((ds ++ dds).map Ar.d)).atX z.2).bind fun r => .val (r.1, z.2)
theorem cx_call (C : Cf0 X W sc N) (hc : Clee X x dvs (spU X.K X.mg m)) (hg : glB sc x = true) (hdv : ∀ G H, DnA X.K G H dvs dds) (ha : CA X W (e :: es) k)
    (hdb : (x == ("__debug__" : Str)) = false := by decide +kernel) (he : starEach (e :: es) X.env = (false, eval e X.env) :: starEach es X.env := by rfl) (hpl : (backTo pos (starEach es X.env)).any (·.1) = false := by rfl) : CX X W (.Call (.Name x p) (e :: es) [] pos) (xCall m dds k) := fun Γ => by
  obtain ⟨k', f, fd, ps, dss, F, hr, hm, hk, hb, hd⟩ := hc
  refine pe_imp (pe_callSD (E := fun σ cls d H => W cls d σ H) F hr (C.gl hg) hm hk hb hd (fun σ => passAt C.tk σ) (ha Γ) hdb he hpl) fun σ H Q ⟨G, S, q⟩ => ⟨G, S, (Pst.bind q).imp fun z G1 H1 e1 p1 vs S1 av => ?_⟩
  obtain ⟨ds, hds, p1⟩ := Pst.ofO p1
  refine callD_core hdv S1 av hds ((Pst.bind p1).imp fun r G2 H2 e2 p2 S2 => ?_)
  cases hz : r.1 with
  | d w =>
    have p2 := p2 G2 H2 (Ext.rf S2.w)
    rw [hz] at p2
    exact fun v hv => p2 v S2 hv
  | c w =>
    have p2 := p2 G2 H2 (Ext.rf S2.w)
    rw [hz] at p2
    exact fun v H3 hn => p2 v H3 S2 hn
def xCallC (m : List Ar → R (Rs × List Sl)) (n : Nat) (dds : List PyData) (k : DA) : DX := fun Γ => (k Γ).bind fun z => (preC n dds z).bind fun y => ((m y.2.2).atC n z.2 y.1 y.2.1).bind fun r => .val (r.1, r.2)
theorem cx_callC (C : Cf0 X W sc N) (n : Nat) (hc : Clee X x dvs (spU X.K X.mg m)) (hg : glB sc x = true) (hdv : ∀ G H, DnA X.K G H dvs dds) (ha : CA X W (e :: es) k)
    (hdb : (x == ("__debug__" : Str)) = false := by decide +kernel) (he : starEach (e :: es) X.env = (false, eval e X.env) :: starEach es X.env := by rfl) (hpl : (backTo pos (starEach es X.env)).any (·.1) = false := by rfl) : CX X W (.Call (.Name x p) (e :: es) [] pos) (xCallC m n dds k) := fun Γ => by
  obtain ⟨k', f, fd, ps, dss, F, hr, hm, hk, hb, hd⟩ := hc
  refine pe_imp (pe_callSD (E := fun σ cls d H => W cls d σ H) F hr (C.gl hg) hm hk hb hd (fun σ => passAt C.tk σ) (ha Γ) hdb he hpl) fun σ H Q ⟨G, S, q⟩ => ⟨G, S, (Pst.bind q).imp fun z G1 H1 e1 p1 vs S1 av => ?_⟩
  obtain ⟨i, ic, ds, h1, h2, h3, h4, p1⟩ := preC_ok p1
  refine callC_core hdv S1 av h1 h2 h3 h4 ((Pst.bind p1).imp fun r G2 H2 e2 p2 S2 => ?_)
  cases hz : r.1 with
  | d w =>
    have p2 := p2 G2 H2 (Ext.rf S2.w)
    rw [hz] at p2
    exact fun v hv => p2 v S2 hv
  | c w =>
    have p2 := p2 G2 H2 (Ext.rf S2.w)
    rw [hz] at p2
    exact fun v H3 hn => p2 v H3 S2 hn
def xCallK (m : List Ar → R (Rs × List Sl)) (n nk : Nat) (dds : List PyData) (k kk : DA) : DX := fun Γ => (k Γ).bind fun z => (kk z.2).bind fun y => (R.req (decide (z.1.length = n) && decide (y.1.length = nk))).bind fun _ => (R.ofO (rdDs y.2 none (z.1 ++ y.1))).bind fun ds => (m ((ds ++ dds).map Ar.d)).nox.bind fun r => .val (r.1, y.2)
theorem cx_callK (C : Cf0 X W sc N) (hc : CleeK X x n ks dvs (spU X.K X.mg m)) (hg : glB sc x = true) (hdv : ∀ G H, DnA X.K G H dvs dds) (ha : CA X W (e :: es) k) (hkw : CK X W kws kk)
    (hall : (backToKw pos (keywordEach kws X.env)).all (·.1.isSome) = true := by rfl) (hks : (backToKw pos (keywordEach kws X.env)).filterMap (·.1) = ks := by rfl) (hdb : (x == ("__debug__" : Str)) = false := by decide +kernel) (he : starEach (e :: es) X.env = (false, eval e X.env) :: starEach es X.env := by rfl)
    (hpl : ((backTo pos (starEach (e :: es) X.env)).any (·.1) || (backToKw pos (keywordEach kws X.env)).any (·.1.isNone)) = false := by rfl) : CX X W (.Call (.Name x p) (e :: es) kws pos) (xCallK m n ks.length dds k kk) := fun Γ => by
  obtain ⟨k', f, fd, ps, its, F, hr, hm, hk, hb⟩ := hc
  refine pe_imp (pe_callN (E := fun _ _ _ => False) F hr (C.gl hg) hm hk hb (passF (E := fun _ _ _ => False)) (ha Γ) (pk_any fun z : List AV × List Sl => hkw z.2) hall hks hdb he hpl) fun σ H Q ⟨G, S, q⟩ => ⟨G, S, (Pst.bind q).imp fun z G1 H1 e1 p1 vs S1 av => ⟨z, G1, S1, (Pst.bind p1).imp fun y G2 H2 e2 p2 zs S2 az => ?_⟩⟩
  obtain ⟨hl, p2⟩ := Pst.req p2
  rw [Bool.and_eq_true] at hl
  obtain ⟨ds, hds, p2⟩ := Pst.ofO p2
  refine ⟨av.len.trans (of_decide_eq_true hl.1), az.len.trans (of_decide_eq_true hl.2), callD_nox (W' := W) hdv S2 ((av.ext e2).append az) hds ((Pst.bind p2).imp fun r G3 H3 e3 p3 S3 => ?_)⟩
  have p3 := p3 G3 H3 (Ext.rf S3.w)
  cases hz : r.1 with
  | d w => rw [hz] at p3; exact fun v hv => p3 v S3 hv
  | c w => rw [hz] at p3; exact fun v H4 hn => p3 v H4 S3 hn
def rsF : Rs → Option PyData
  | .d x => some x
  | .c c => frzC c
def eX (f : DX) : DF := fun Γ => (f Γ).bind fun z => (R.ofO (rsF z.1)).bind fun d => .val (.d true d, z.2)
theorem ce_x (h : CX X W e f) : CE X W e (eX f) := fun Γ => pe_imp (h Γ) fun σ H Q ⟨G, S, q⟩ => ⟨G, S, (Pst.bind q).imp fun z G1 H1 e1 p1 => by
  obtain ⟨r, Γ1⟩ := z
  cases r with
  | d x =>
    intro v S1 hv
    exact p1 G1 H1 (Ext.rf S1.w) v S1 hv
  | c c =>
    intro v H2 S1 nc
    obtain ⟨d, hd, p1⟩ := Pst.ofO p1
    obtain ⟨G2, S2, e2, hv⟩ := NewC.frz S1 nc hd
    exact p1 G2 H2 e2 v S2 hv⟩
def rsS : Rs → Sl
  | .d x => .dat true x
  | .c c => .own c
def bSetX (i : Nat) (f : DX) : DS := fun Γ => (f Γ).bind fun z => .val (.nx, z.2.set i (rsS z.1))
theorem c1_setX (C : Cf0 X W sc N) (i : Nat) {x : Str} {p' : Pos} (hN : N[i]? = some x) (hv : Sto X sc x) (he : CX X W e f) (hs : swapsWith e (some (.Name x p')) pos.line X.env = pure false := by rfl) : C1 X W (.Assign [.Name x p'] e pos) (bSetX i f) := fun Γ => by
  have hx : Loc X.env.scope x := by rw [C.hsc]; exact hv.1
  refine ps_imp (ps_set (i := i) (by rw [C.hN]; exact C.nd) (by rw [C.hN]; exact hN) hx (he Γ) hs (by rw [C.hsc]; exact hv.2)) fun D σ H ⟨G, S, p⟩ => ⟨G, S, (Pst.bind p).imp fun z G1 H1 e1 p1 => ?_⟩
  obtain ⟨r, Γ1⟩ := z
  cases r with
  | d x =>
    intro v S1 hv
    exact p1 G1 H1 (Ext.rf S1.w) _ (S1.put i hv)
  | c c =>
    intro v H2 S1 nc
    obtain ⟨S2, e2⟩ := S1.putC i nc
    exact p1 G1 H2 e2 _ S2
def bRetX (f : DX) : DS := fun Γ => (f Γ).bind fun z => .val (.rt z.1, z.2)
def bExprX (f : DX) : DS := fun Γ => (f Γ).bind fun z => (R.ofO (rsF z.1)).bind fun _ => .val (.nx, z.2)
end
end PD
set_option Elab.async false
set_option linter.all false
set_option maxRecDepth 100000
set_option maxHeartbeats 4000000
set_option autoImplicit false
namespace PD
open PySem L2
section
variable {X : Cx} {W : WX} {sc : Scope} {N : List Str} {a b e : Expr} {es : List Expr} {pos p p2 : Pos} {f g : DF}
def cutX (x : AV × List Sl) (l h : Option Int × List Sl) : R (Rs × List Sl) := match lsA h.2 x.1 with
  | some ds => .val (.c (.lst (cutD ds l.1 h.1)), h.2)
  | none => match x.1 with
    | .d fr (.tuple ds) => gq (fr || flat.flatA ds) (.d (.tuple (cutD ds l.1 h.1)), h.2)
    | _ => .bad
def xCut (f : DF) (lo hi : DO) : DX := fun Γ => (f Γ).bind fun x => (lo x.2).bind fun l => (hi l.2).bind fun h => cutX x l h
theorem cx_cut {lo hi : Option Expr} {fl fh : DO} (ha : CE X W a f) (hl : CO X W lo fl) (hh : CO X W hi fh) : CX X W (.Subscript a (.Slice lo hi none p2) pos) (xCut f fl fh) := fun Γ =>
  pe_imp (pe_slice (sl_list.or sl_tupA) (ha Γ) (po_any fun x : AV × List Sl => hl x.2) (po_any fun x : Option Int × List Sl => hh x.2)) fun σ H Q ⟨G, S, q⟩ => ⟨G, S, (Pst.bind q).imp fun x G1 H1 e1 q1 v S1 hv => ⟨x, G1, S1, (Pst.bind q1).imp fun l G2 H2 e2 q2 S2 => ⟨l, G2, S2, (Pst.bind q2).imp fun h G3 H3 e3 q3 S3 => by
    have hv := hv.ext (e2.tr e3)
    unfold cutX at q3
    split at q3
    · rename_i ds hd
      obtain ⟨p, xs, rfl, g1, g2⟩ := lsA_ok hd S3 hv
      exact .inl ⟨p, xs, rfl, g1, fun r hr => q3 G3 H3 (Ext.rf S3.w) _ _ S3 (newc_lst hr (g2.cut _ _))⟩
    · split at q3
      · rename_i fr ds hx
        rw [hx] at hv
        obtain ⟨hc, q3⟩ := Pst.req q3
        obtain ⟨r, xs, rfl, g1, g2⟩ := dn_tupleH hv
        have g2 := g2.fresh hc
        refine .inr ⟨r, xs, rfl, SqT.of g1, fun hw => ?_, fun hw t ht => ?_⟩
        · refine q3 G3 H3 (Ext.rf S3.w) _ S3 ?_
          rw [g2.length] at hw
          show Dn X.K (rg G3 true) H3 _ (.tuple (cutD ds l.1 h.1))
          rw [cut_whole ds hw]
          exact .tup g1 g2
        · obtain ⟨G4, S4, e4, h4⟩ := S3.newTup ht (g2.cut l.1 h.1)
          exact q3 G4 _ e4 _ S4 h4
      · exact q3.elim⟩⟩⟩
theorem spU_law {K : PySem.W.Frag} {mg : Str → Option Value} {H : Hp} {a : Addr} {ns : List Int} {m : List Ar → R (Rs × List Sl)} (h : m [.d (.list (ns.map PyData.int))] = .val (.d (.bool true), [.un])) (hS : SqL K H a (ns.map V.int)) : spU K mg m [.ref a] H (fun v _ => v = .bl true) fun _ _ _ => False := by
  refine ⟨[.d (.list (ns.map PyData.int))], fun _ => [], [], fun _ => none, ?_, ?_⟩
  · refine argsD (ds := [.list (ns.map PyData.int)]) (.cons (.lst ((LsR.of_sq hS).mono fun _ _ z => ⟨z, by simp⟩) (ints_dna ns)) .nil) (fun a o h => by cases h)
  · rw [h]
    exact fun H' N F' _ v hv => dn_bool hv
end
end PD
set_option Elab.async false
set_option linter.all false
set_option maxRecDepth 100000
set_option maxHeartbeats 4000000
set_option autoImplicit false
namespace PD
open PySem PySem.Spec L2
open PyProof.Rows hiding St
section
variable {X : Cx} {W : WX} {sc : Scope} {N : List Str} {a b c e : Expr} {es : List Expr} {pos p p2 q2 : Pos} {f g h : DF}
def cLrg (i j : Int) : Bool := cRng i j && decide ((j - i).toNat ≤ 2 ^ 24)
def dLrng1 (f : DF) : DN := fun Γ => (f Γ).bind fun z => (R.ofO (intA z.1)).bind fun j => gq (cLrg 0 j) ((rng 0 j).map PyData.int, z.2)
def dLrng2 (f g : DF) : DN := fun Γ => (f Γ).bind fun z => (g z.2).bind fun y => (R.ofO (intA z.1)).bind fun i => (R.ofO (intA y.1)).bind fun j => gq (cLrg i j) ((rng i j).map PyData.int, y.2)
end
end PD
set_option Elab.async false
set_option linter.all false
set_option maxRecDepth 100000
set_option maxHeartbeats 4000000
set_option autoImplicit false
namespace PD
open PySem L2
def ItK (t : Bool) (h : Heap) (it l : Addr) (i : Nat) : Prop := match t with
  | true => h.IsTupleIter it l i
  | false => h.IsListIter it l i
def SqK (t : Bool) (h : Heap) (l : Addr) (xs : Array Value) : Prop := match t with
  | true => h.IsTuple l xs
  | false => h.IsList l xs
theorem ItK.e {t : Bool} {h h' : Heap} {it b l : Addr} {i : Nat} (x : ItK t h it l i) (hs : Heap.ExtBut b h h') (n : it ≠ b) : ItK t h' it l i := by
  cases t
  · exact Heap.IsListIter.extBut x hs n
  · exact Heap.IsTupleIter.extBut x hs n
theorem ItK.at {t : Bool} {h h' : Heap} {it l : Addr} {i : Nat} (x : ItK t h it l i) (k : ∀ o, h.get? it = some o → h'.get? it = some o) : ItK t h' it l i := by
  cases t
  · exact Heap.IsListIter.at x k
  · exact Heap.IsTupleIter.at x k
theorem ItK.ob {t : Bool} {h : Heap} {it l : Addr} {i : Nat} (x : ItK t h it l i) : ∃ o fs, h.get? it = some o ∧ o.data = .fields fs := by
  cases t
  · obtain ⟨o, h1, _, h2⟩ := x; exact ⟨o, _, h1, h2⟩
  · obtain ⟨o, h1, _, h2⟩ := x; exact ⟨o, _, h1, h2⟩
theorem SqK.e {t : Bool} {h h' : Heap} {l b : Addr} {xs : Array Value} (x : SqK t h l xs) (hs : Heap.ExtBut b h h') (n : l ≠ b) : SqK t h' l xs := by
  cases t
  · exact Heap.IsList.extBut x hs n
  · exact Heap.IsTuple.extBut x hs n
theorem SqK.p {t : Bool} {h : Heap} {l : Addr} {xs : Array Value} (x : SqK t h l xs) (o : Obj) : SqK t (h.push o) l xs := by
  cases t
  · exact Heap.IsList.push x o
  · exact Heap.IsTuple.push x o
section
variable {prog : Program} {w : World} {A : Around} {E : Value → Shared → Prop} {s : Shared}
theorem nxK {t : Bool} {it l : Addr} {i : Nat} {xs : Array Value} {x : Value} {Q : Value → Shared → Prop} (hi : ItK t s.heap it l i) (hl : SqK t s.heap l xs) (hx : xs[i]? = some x) (hQ : ∀ h', ItK t h' it l (i + 1) → Heap.SameBut it s.heap h' → Q x { s with heap := h' }) : wpAny (model prog w) A (Builtin.SmallTypes.nextOf (.ref it)) Q E s := by
  cases t
  · exact wpAny_nextOf_list_item hi hl hx hQ
  · exact RZ.nextOf_tuple_item hi hl hx hQ
theorem nxK0 {t : Bool} {it l : Addr} {i : Nat} {xs : Array Value} {Q : Value → Shared → Prop} (hh : A.handled = none) (hi : ItK t s.heap it l i) (hl : SqK t s.heap l xs) (hx : xs[i]? = none) (hE : ∀ h' e, Heap.ExtBut it s.heap h' → (∃ o, h'.get? e = some o ∧ o.cls = .type "StopIteration") → E (.ref e) { s with heap := h' }) : wpAny (model prog w) A (Builtin.SmallTypes.nextOf (.ref it)) Q E s := by
  cases t
  · exact wpAny_nextOf_list_end hh hi hl hx hE
  · exact RZ.nextOf_tuple_end hh hi hl hx hE
variable {t1 t2 : Bool} {z TI TO i1 i2 l1 l2 : Addr} {k1 k2 : Nat} {xs ys : Array Value}
theorem zk_item {x y a b : Value} {Q : Value → Shared → Prop} (D : ZipApart z TI TO i1 i2 l1 l2) (hz : IsZip s.heap z TI TO .none) (hTI : IsPair s.heap TI (.ref i1) (.ref i2)) (hTO : IsPair s.heap TO a b) (h1 : ItK t1 s.heap i1 l1 k1) (h2 : ItK t2 s.heap i2 l2 k2) (hl1 : SqK t1 s.heap l1 xs) (hl2 : SqK t2 s.heap l2 ys) (hx : xs[k1]? = some x) (hy : ys[k2]? = some y)
    (hQ : ∀ h', IsZip h' z TI TO (rawInt s.heap.objs.size) → IsPair h' TO x y → ItK t1 h' i1 l1 (k1 + 1) → ItK t2 h' i2 l2 (k2 + 1) → IsPair h' s.heap.objs.size x y → (∀ c o, c ≠ z → c ≠ TO → c ≠ i1 → c ≠ i2 → s.heap.get? c = some o → h'.get? c = some o) → Q (.ref s.heap.objs.size) { s with heap := h' }) :
    wpAny (model prog w) A (Builtin.«zip.__next__» ⟨[.ref z], []⟩) (fun fin s' => ∃ v, fin = .done (.ret v) ∧ Q v s') E s := by
  show wpAny _ _ (field (.ref z) 2 >>= _) _ _ _; refine wpAny_bind (wpAny_field hz rfl (x := .bool false) rfl (show wpAny _ _ (field (.ref z) 3 >>= _) _ _ _ from wpAny_bind (wpAny_field hz rfl (x := .ref TI) rfl (wpAny_bind (wpAny_seqItems hTI rfl ?_)))))
  show wpAny _ _ (Builtin.SmallTypes.ownedTupleIsFree (.ref z) >>= _) _ _ _; refine wpAny_bind ?_
  unfold Builtin.SmallTypes.ownedTupleIsFree; refine wpAny_bind (wpAny_field hz rfl (x := .none) rfl (wpAny_pure ?_)); simp only [if_true]
  refine wpAny_bind (wpAny_rule (wpAny_bind (wpAny_field hz rfl (x := .ref TO) rfl (wpAny_bind (wpAny_setField_rec hz (by simp) fun g1 z1 b1 => wpAny_bind ?_)))))
  have z1 : IsZip g1 z TI TO .ellipsis := z1; simp only [List.zipIdx_cons, List.zipIdx_nil, List.forIn_cons, List.forIn_nil]
  refine wpAny_bind (wpAny_bind (wpAny_onRaise (show wpAny _ _ (Builtin.SmallTypes.nextOf (.ref i1) >>= _) _ _ _ from wpAny_bind (nxK (h1.e b1.extBut D.i1z) (hl1.e b1.extBut D.l1z) hx fun g2 n2 b2 => wpAny_pure ?_))))
  have o2 : IsPair g2 TO a b := b2.extBut _ _ D.TOi1 (b1.extBut _ _ D.TOz hTO)
  refine wpAny_bind (wpAny_seqItems o2 rfl (wpAny_bind (wpAny_updateSeq_pair o2 fun g3 o3 b3 => wpAny_bind (wpAny_letGo (wpAny_pure ?_)))))
  have o3 : IsPair g3 TO x b := o3
  refine wpAny_bind (wpAny_bind (wpAny_onRaise (show wpAny _ _ (Builtin.SmallTypes.nextOf (.ref i2) >>= _) _ _ _ from wpAny_bind (nxK (((h2.e b1.extBut D.i2z).e b2.extBut D.i12.symm).e b3.extBut D.TOi2.symm) (((hl2.e b1.extBut D.l2z).e b2.extBut D.l2i1).e b3.extBut D.l2TO) hy fun g4 n4 b4 => wpAny_pure ?_))))
  have o4 : IsPair g4 TO x b := b4.extBut _ _ D.TOi2 o3
  refine wpAny_bind (wpAny_seqItems o4 rfl (wpAny_bind (wpAny_updateSeq_pair o4 fun g5 o5 b5 => wpAny_bind (wpAny_letGo (wpAny_pure (wpAny_pure ?_))))))
  have o5 : IsPair g5 TO x y := o5
  refine wpAny_bind (wpAny_seqItems o5 rfl (wpAny_bind (wpAny_newTuple ?_)))
  have sz : g5.objs.size = s.heap.objs.size := by rw [b5.1, b4.1, b3.1, b2.1, b1.1]
  have z5 : IsZip g5 z TI TO .ellipsis := b5.extBut _ _ D.TOz.symm (b4.extBut _ _ D.i2z.symm (b3.extBut _ _ D.TOz.symm (b2.extBut _ _ D.i1z.symm z1)))
  have kp : ∀ c o, c ≠ z → c ≠ TO → c ≠ i1 → c ≠ i2 → s.heap.get? c = some o → g5.get? c = some o := fun c o c1 c2 c3 c4 q => b5.extBut _ _ c2 (b4.extBut _ _ c4 (b3.extBut _ _ c2 (b2.extBut _ _ c3 (b1.extBut _ _ c1 q))))
  have m1 : ItK t1 g5 i1 l1 (k1 + 1) := ((n2.e b3.extBut D.TOi1.symm).e b4.extBut D.i12).e b5.extBut D.TOi1.symm
  have m2 : ItK t2 g5 i2 l2 (k2 + 1) := n4.e b5.extBut D.TOi2.symm
  have zl : z < g5.objs.size := Heap.lt_size z5
  show wpAny _ _ (Builtin.SmallTypes.ownedTupleHandOut (.ref z) (.ref g5.objs.size) >>= _) _ _ _; refine wpAny_bind ?_; unfold Builtin.SmallTypes.ownedTupleHandOut
  have z6 : IsZip (g5.push { cls := .type "tuple", data := .seq #[x, y] }) z TI TO .ellipsis := Heap.get?_push_of_some _ z5
  refine wpAny_bind (wpAny_setField_rec z6 (by simp) fun g7 z7 b7 => wpAny_setField_rec (show IsZip g7 z TI TO (rawInt g5.objs.size) from z7) (by simp) fun g8 z8 b8 => ?_)
  have z8 : IsZip g8 z TI TO (rawInt g5.objs.size) := z8
  have up : ∀ c o, c ≠ z → g5.get? c = some o → g8.get? c = some o := fun c o c1 q => b8.extBut _ _ c1 (b7.extBut _ _ c1 (Heap.get?_push_of_some _ q))
  have p8 : IsPair g8 g5.objs.size x y := b8.extBut _ _ (Nat.ne_of_gt zl) (b7.extBut _ _ (Nat.ne_of_gt zl) (Heap.get?_push_size _ rfl))
  rw [sz] at z8 p8
  refine wpAny_pure ⟨_, rfl, show Q (.ref g5.objs.size) _ from ?_⟩
  rw [sz]
  exact hQ g8 z8 (up _ _ D.TOz o5) (m1.at fun o q => up _ o D.i1z q) (m2.at fun o q => up _ o D.i2z q) p8 fun c o c1 c2 c3 c4 q => up c o c1 (kp c o c1 c2 c3 c4 q)
theorem zk_end {a b : Value} {Q : Fin → Shared → Prop} (hh : A.handled = none) (D : ZipApart z TI TO i1 i2 l1 l2) (hz : IsZip s.heap z TI TO .none) (hTI : IsPair s.heap TI (.ref i1) (.ref i2)) (hTO : IsPair s.heap TO a b) (h1 : ItK t1 s.heap i1 l1 k1) (h2 : ItK t2 s.heap i2 l2 k2) (hl1 : SqK t1 s.heap l1 xs) (hl2 : SqK t2 s.heap l2 ys) (hend : xs[k1]? = none ∨ ys[k2]? = none)
    (hE : ∀ h' e, (∀ c o, c ≠ z → c ≠ TO → c ≠ i1 → c ≠ i2 → s.heap.get? c = some o → h'.get? c = some o) → (∃ o, h'.get? e = some o ∧ o.cls = .type "StopIteration") → E (.ref e) { s with heap := h' }) : wpAny (model prog w) A (Builtin.«zip.__next__» ⟨[.ref z], []⟩) Q E s := by
  show wpAny _ _ (field (.ref z) 2 >>= _) _ _ _; refine wpAny_bind (wpAny_field hz rfl (x := .bool false) rfl (show wpAny _ _ (field (.ref z) 3 >>= _) _ _ _ from wpAny_bind (wpAny_field hz rfl (x := .ref TI) rfl (wpAny_bind (wpAny_seqItems hTI rfl ?_)))))
  show wpAny _ _ (Builtin.SmallTypes.ownedTupleIsFree (.ref z) >>= _) _ _ _; refine wpAny_bind ?_
  unfold Builtin.SmallTypes.ownedTupleIsFree; refine wpAny_bind (wpAny_field hz rfl (x := .none) rfl (wpAny_pure ?_)); simp only [if_true]
  refine wpAny_bind (wpAny_rule (wpAny_bind (wpAny_field hz rfl (x := .ref TO) rfl (wpAny_bind (wpAny_setField_rec hz (by simp) fun g1 z1 b1 => wpAny_bind ?_)))))
  have z1 : IsZip g1 z TI TO .ellipsis := z1; simp only [List.zipIdx_cons, List.zipIdx_nil, List.forIn_cons, List.forIn_nil]
  refine wpAny_bind (wpAny_bind (wpAny_onRaise (show wpAny _ _ (Builtin.SmallTypes.nextOf (.ref i1) >>= _) _ _ _ from ?_)))
  cases hx : xs[k1]? with
  | none =>
    refine wpAny_bind (nxK0 hh (h1.e b1.extBut D.i1z) (hl1.e b1.extBut D.l1z) hx fun g2 e b2 ⟨oe, he, ce⟩ => ?_)
    have z2 : IsZip g2 z TI TO .ellipsis := b2 _ _ D.i1z.symm z1
    have ez : e ≠ z := fun q => by subst q; rw [z2] at he; cases he; simp at ce
    exact wpAny_setField_rec z2 (by simp) fun g3 _ b3 => hE g3 e (fun c o c1 _ c3 _ q => b3.extBut _ _ c1 (b2 _ _ c3 (b1.extBut _ _ c1 q))) ⟨oe, b3.extBut _ _ ez he, ce⟩
  | some x =>
    have hy : ys[k2]? = none := by rcases hend with q | q; rw [hx] at q; cases q; exact q
    refine wpAny_bind (nxK (h1.e b1.extBut D.i1z) (hl1.e b1.extBut D.l1z) hx fun g2 n2 b2 => wpAny_pure ?_)
    have o2 : IsPair g2 TO a b := b2.extBut _ _ D.TOi1 (b1.extBut _ _ D.TOz hTO)
    refine wpAny_bind (wpAny_seqItems o2 rfl (wpAny_bind (wpAny_updateSeq_pair o2 fun g3 o3 b3 => wpAny_bind (wpAny_letGo (wpAny_pure ?_)))))
    refine wpAny_bind (wpAny_bind (wpAny_onRaise (show wpAny _ _ (Builtin.SmallTypes.nextOf (.ref i2) >>= _) _ _ _ from wpAny_bind (nxK0 hh (((h2.e b1.extBut D.i2z).e b2.extBut D.i12.symm).e b3.extBut D.TOi2.symm) (((hl2.e b1.extBut D.l2z).e b2.extBut D.l2i1).e b3.extBut D.l2TO) hy fun g4 e b4 ⟨oe, he, ce⟩ => ?_))))
    have z4 : IsZip g4 z TI TO .ellipsis := b4 _ _ D.i2z.symm (b3.extBut _ _ D.TOz.symm (b2.extBut _ _ D.i1z.symm z1))
    have ez : e ≠ z := fun q => by subst q; rw [z4] at he; cases he; simp at ce
    exact wpAny_setField_rec z4 (by simp) fun g5 _ b5 => hE g5 e (fun c o c1 c2 c3 c4 q => b5.extBut _ _ c1 (b4 _ _ c4 (b3.extBut _ _ c2 (b2.extBut _ _ c3 (b1.extBut _ _ c1 q))))) ⟨oe, b5.extBut _ _ ez he, ce⟩
end
end PD
set_option Elab.async false
set_option linter.all false
set_option maxRecDepth 100000
set_option maxHeartbeats 4000000
set_option autoImplicit false
namespace PD
open PySem L2
def kNm : Bool → String
  | true => "tuple_iterator"
  | false => "list_iterator"
abbrev zkA (t1 : Bool) (h : Heap) (l1 : Addr) : Heap := h.push { cls := .type (kNm t1), data := .fields #[.ref l1, .int 0 0] }
abbrev zkB (t1 t2 : Bool) (h : Heap) (l1 l2 : Addr) : Heap := (zkA t1 h l1).push { cls := .type (kNm t2), data := .fields #[.ref l2, .int 0 0] }
abbrev zkC (t1 t2 : Bool) (h : Heap) (l1 l2 : Addr) : Heap := (zkB t1 t2 h l1 l2).push { cls := .type "tuple", data := .seq #[.ref h.objs.size, .ref (zkA t1 h l1).objs.size] }
abbrev zkD (t1 t2 : Bool) (h : Heap) (l1 l2 : Addr) : Heap := (zkC t1 t2 h l1 l2).push { cls := .type "tuple", data := .seq #[.none, .none] }
abbrev zkE (t1 t2 : Bool) (h : Heap) (l1 l2 : Addr) : Heap := (zkD t1 t2 h l1 l2).push { cls := .type "zip", data := .fields #[.none, .bool false, .bool false, .ref (zkB t1 t2 h l1 l2).objs.size, .ref (zkC t1 t2 h l1 l2).objs.size] }
theorem zk_new (t1 t2 : Bool) (l1 l2 : Addr) (xs ys : Array Value) : Meets (Builtin.«zip.__new__» ⟨[.type "zip", .ref l1, .ref l2], []⟩) (fun _ R s => SqK t1 s.heap l1 xs ∧ SqK t2 s.heap l2 ys ∧ R (.ok (.ret (.ref (zkD t1 t2 s.heap l1 l2).objs.size))) { s with heap := zkE t1 t2 s.heap l1 l2 }) :=
  .of_wp fun prog w A R s h => by
    obtain ⟨hp, g, d, tk, os⟩ := s
    obtain ⟨hl1, hl2, h⟩ := h
    have hsub := sub_zip
    cases t1
    · have a1 : Heap.IsList (Shared.heap ⟨hp, g, d, tk, os⟩) l1 xs := hl1
      cases t2
      · have a2 : Heap.IsList (Shared.heap ⟨hp.push { cls := .type "list_iterator", data := .fields #[.ref l1, .int 0 0] }, g, d, tk, os⟩) l2 ys := Heap.IsList.push hl2 _
        wp_walk using wpAny_pyIter_list a1, wpAny_pyIter_list a2
        exact ⟨_, rfl, h⟩
      · have a2 : Heap.IsTuple (Shared.heap ⟨hp.push { cls := .type "list_iterator", data := .fields #[.ref l1, .int 0 0] }, g, d, tk, os⟩) l2 ys := Heap.IsTuple.push hl2 _
        wp_walk using wpAny_pyIter_list a1, wpAny_pyIter_tuple a2
        exact ⟨_, rfl, h⟩
    · have a1 : Heap.IsTuple (Shared.heap ⟨hp, g, d, tk, os⟩) l1 xs := hl1
      cases t2
      · have a2 : Heap.IsList (Shared.heap ⟨hp.push { cls := .type "tuple_iterator", data := .fields #[.ref l1, .int 0 0] }, g, d, tk, os⟩) l2 ys := Heap.IsList.push hl2 _
        wp_walk using wpAny_pyIter_tuple a1, wpAny_pyIter_list a2
        exact ⟨_, rfl, h⟩
      · have a2 : Heap.IsTuple (Shared.heap ⟨hp.push { cls := .type "tuple_iterator", data := .fields #[.ref l1, .int 0 0] }, g, d, tk, os⟩) l2 ys := Heap.IsTuple.push hl2 _
        wp_walk using wpAny_pyIter_tuple a1, wpAny_pyIter_tuple a2
        exact ⟨_, rfl, h⟩
section
variable {prog : Program} {w : World} {A : Around} {E : Value → Shared → Prop} {s : Shared} {t1 t2 : Bool}
theorem itk_new {t : Bool} {h : Heap} {it l : Addr} (e : h.get? it = some { cls := .type (kNm t), data := .fields #[.ref l, .int 0 0] }) : ItK t h it l 0 := by
  cases t
  · exact ⟨_, e, rfl, rfl⟩
  · exact ⟨_, e, rfl, rfl⟩
theorem zk_call {l1 l2 : Addr} {xs ys : Array Value} {Q : Value → Shared → Prop} (hl1 : SqK t1 s.heap l1 xs) (hl2 : SqK t2 s.heap l2 ys)
    (h : ∀ h', IsZip h' (s.heap.objs.size + 4) (s.heap.objs.size + 2) (s.heap.objs.size + 3) .none → IsPair h' (s.heap.objs.size + 2) (.ref s.heap.objs.size) (.ref (s.heap.objs.size + 1)) → IsPair h' (s.heap.objs.size + 3) .none .none → ItK t1 h' s.heap.objs.size l1 0 → ItK t2 h' (s.heap.objs.size + 1) l2 0 → (∀ c o, s.heap.get? c = some o → h'.get? c = some o) → Q (.ref (s.heap.objs.size + 4)) { s with heap := h' }) :
    wpAny (model prog w) A (call (.type "zip") [.ref l1, .ref l2]) Q E s := by
  refine callType_new F.called_zip (by decide) (F.typeCall_zip_2 _ _) (F.newCall_zip_2 _ _) (fun obj => F.args_object_init_3 obj _ _) F.entry_zip_new (zk_new t1 t2 l1 l2 xs ys) ⟨hl1, hl2, ?_⟩
  have e1 : (zkA t1 s.heap l1).objs.size = s.heap.objs.size + 1 := Heap.size_push ..
  have e2 : (zkB t1 t2 s.heap l1 l2).objs.size = s.heap.objs.size + 2 := by rw [Heap.size_push, e1]
  have e3 : (zkC t1 t2 s.heap l1 l2).objs.size = s.heap.objs.size + 3 := by rw [Heap.size_push, e2]
  have e4 : (zkD t1 t2 s.heap l1 l2).objs.size = s.heap.objs.size + 4 := by rw [Heap.size_push, e3]
  have g5 : (zkE t1 t2 s.heap l1 l2).get? (zkD t1 t2 s.heap l1 l2).objs.size = some _ := Heap.get?_push_size _ rfl
  have g4 : (zkE t1 t2 s.heap l1 l2).get? (zkC t1 t2 s.heap l1 l2).objs.size = some _ := Heap.get?_push_of_some _ (Heap.get?_push_size _ rfl)
  have g3 : (zkE t1 t2 s.heap l1 l2).get? (zkB t1 t2 s.heap l1 l2).objs.size = some _ := Heap.get?_push_of_some _ (Heap.get?_push_of_some _ (Heap.get?_push_size _ rfl))
  have g2 : (zkE t1 t2 s.heap l1 l2).get? (zkA t1 s.heap l1).objs.size = some _ := Heap.get?_push_of_some _ (Heap.get?_push_of_some _ (Heap.get?_push_of_some _ (Heap.get?_push_size _ rfl)))
  have g1 : (zkE t1 t2 s.heap l1 l2).get? s.heap.objs.size = some _ := Heap.get?_push_of_some _ (Heap.get?_push_of_some _ (Heap.get?_push_of_some _ (Heap.get?_push_of_some _ (Heap.get?_push_size _ rfl))))
  show _ ∧ _
  rw [e2, e3, e4] at g5; rw [e1, e2] at g3; rw [e3] at g4; rw [e1] at g2; rw [e4]
  exact ⟨⟨_, g5, rfl⟩, h _ g5 g3 g4 (itk_new g1) (itk_new g2) fun c o x => Heap.get?_push_of_some _ (Heap.get?_push_of_some _ (Heap.get?_push_of_some _ (Heap.get?_push_of_some _ (Heap.get?_push_of_some _ x))))⟩
variable {z TI TO i1 i2 l1 l2 : Addr} {k1 k2 : Nat} {xs ys : Array Value}
theorem zk_nx {x y a b : Value} {Q : Option Value → Shared → Prop} (D : ZipApart z TI TO i1 i2 l1 l2) (hz : IsZip s.heap z TI TO .none) (hTI : IsPair s.heap TI (.ref i1) (.ref i2)) (hTO : IsPair s.heap TO a b) (h1 : ItK t1 s.heap i1 l1 k1) (h2 : ItK t2 s.heap i2 l2 k2) (hl1 : SqK t1 s.heap l1 xs) (hl2 : SqK t2 s.heap l2 ys) (hx : xs[k1]? = some x) (hy : ys[k2]? = some y)
    (hQ : ∀ h', IsZip h' z TI TO (rawInt s.heap.objs.size) → IsPair h' TO x y → ItK t1 h' i1 l1 (k1 + 1) → ItK t2 h' i2 l2 (k2 + 1) → IsPair h' s.heap.objs.size x y → (∀ c o, c ≠ z → c ≠ TO → c ≠ i1 → c ≠ i2 → s.heap.get? c = some o → h'.get? c = some o) → Q (some (.ref s.heap.objs.size)) { s with heap := h' }) : wpAny (model prog w) A (pyNext (.ref z)) Q E s := by
  have hT : s.TypeIs (.ref z) "zip" := ⟨_, hz, rfl⟩
  unfold pyNext; exact wpAny_bind (wpAny_attempt (wpAny_callSpecial?_slot (name := Str.ofString "__next__") hT F.slot_zip_next (wpAny_call_entry F.slot_zip_next hT F.entry_zip_next (zk_item D hz hTI hTO h1 h2 hl1 hl2 hx hy fun h' a1 a2 a3 a4 a5 a6 => wpAny_pure (hQ h' a1 a2 a3 a4 a5 a6)) (F.args_zip_next_1 _))))
theorem zk_nx0 {a b : Value} {Q : Option Value → Shared → Prop} (hh : A.handled = none) (D : ZipApart z TI TO i1 i2 l1 l2) (hz : IsZip s.heap z TI TO .none) (hTI : IsPair s.heap TI (.ref i1) (.ref i2)) (hTO : IsPair s.heap TO a b) (h1 : ItK t1 s.heap i1 l1 k1) (h2 : ItK t2 s.heap i2 l2 k2) (hl1 : SqK t1 s.heap l1 xs) (hl2 : SqK t2 s.heap l2 ys) (hend : xs[k1]? = none ∨ ys[k2]? = none)
    (hQ : ∀ h', (∀ c o, c ≠ z → c ≠ TO → c ≠ i1 → c ≠ i2 → s.heap.get? c = some o → h'.get? c = some o) → Q none { s with heap := h' }) : wpAny (model prog w) A (pyNext (.ref z)) Q E s := by
  have hT : s.TypeIs (.ref z) "zip" := ⟨_, hz, rfl⟩
  unfold pyNext; refine wpAny_bind (wpAny_attempt (wpAny_callSpecial?_slot (name := Str.ofString "__next__") hT F.slot_zip_next (wpAny_call_entry F.slot_zip_next hT F.entry_zip_next (zk_end hh D hz hTI hTO h1 h2 hl1 hl2 hend fun h' e hk ⟨o, ho, hc⟩ => ?_) (F.args_zip_next_1 _))))
  exact wpAny_bind (wpAny_isInstance (T := "StopIteration") (b := true) ⟨o, ho, hc⟩ isSubtype_stop (wpAny_pure (hQ _ hk)))
end
end PD
set_option Elab.async false
set_option linter.all false
set_option maxRecDepth 100000
set_option maxHeartbeats 4000000
set_option autoImplicit false
namespace PD
open PySem L2
def SqX (t : Bool) (K : PySem.W.Frag) (H : Hp) (a : Addr) (xs : List V) : Prop := match t with
  | true => SqT K H a xs
  | false => SqL K H a xs
theorem inv_sq {X : Cx} {pins : List (Addr × Obj)} {σ : St} {H : Hp} {s : Shared} {t : Bool} {a : Addr} {xs : List V} (I : Inv X pins σ H s) (h : SqX t X.K H a xs) : ∃ its : List Value, Vals xs its ∧ SqK t s.heap a its.toArray ∧ a < s.heap.objs.size := by
  cases t
  · obtain ⟨its, r, p, _⟩ := I.list h
    exact ⟨its, r, p.isList, p.lt⟩
  · obtain ⟨its, r, p, _⟩ := I.tuple h
    obtain ⟨o, ho, _⟩ := id p
    exact ⟨its, r, p, Heap.lt_size ho⟩
theorem sq_inj {X : Cx} {pins : List (Addr × Obj)} {σ : St} {H : Hp} {s : Shared} {t : Bool} {a : Addr} {xs ys : List V} (I : Inv X pins σ H s) (h : SqX t X.K H a xs) (h' : SqX t X.K H a ys) : xs = ys := by
  cases t
  · exact I.list_inj h h'
  · exact I.tuple_inj h h'
def ItzK (t1 t2 : Bool) (K : PySem.W.Frag) (a b : Addr) : It :=
  ⟨fun i H => ∃ (xs ys : List V) (x y : V), SqX t1 K H a xs ∧ SqX t2 K H b ys ∧ xs[i]? = some x ∧ ys[i]? = some y,
    fun i H v H' => ∃ T x y, v = .ref T ∧ H T = none ∧ H' = upd H T (.tup [x, y]) ∧ (∀ xs, SqX t1 K H a xs → xs[i]? = some x) ∧ ∀ ys, SqX t2 K H b ys → ys[i]? = some y,
    fun i H => ∃ xs ys : List V, SqX t1 K H a xs ∧ SqX t2 K H b ys ∧ (xs.length ≤ i ∨ ys.length ≤ i)⟩
theorem turn_zk {P : Program} {w : World} {K : PySem.W.Frag} {elts : List Expr} {kk : Nat} {tpos : Pos} {t1 t2 : Bool} {a b z TI TO i1 i2 : Addr} (D : ZipApart z TI TO i1 i2 a b) :
    Turn P w K (.Tuple elts kk tpos) (ItzK t1 t2 K a b) [z, TI, TO, i1, i2] z (fun i h => IsZip h z TI TO .none ∧ IsPair h TI (.ref i1) (.ref i2) ∧ (∃ x y, IsPair h TO x y) ∧ ItK t1 h i1 a i ∧ ItK t2 h i2 b i) where
  mem := by simp
  obj := fun i h ⟨hz, hTI, ⟨x, y, hTO⟩, n1, n2⟩ c hc => by
    obtain ⟨p1, fs1, e1, d1⟩ := n1.ob
    obtain ⟨p2, fs2, e2, d2⟩ := n2.ob
    have hc : c = z ∨ c = TI ∨ c = TO ∨ c = i1 ∨ c = i2 := by simpa using hc
    rcases hc with rfl | rfl | rfl | rfl | rfl
    · exact ⟨_, hz, fun v q => nomatch q⟩
    · exact ⟨_, hTI, fun v q => nomatch q⟩
    · exact ⟨_, hTO, fun v q => nomatch q⟩
    · exact ⟨p1, e1, fun v q => by rw [d1] at q; cases q⟩
    · exact ⟨p2, e2, fun v q => by rw [d2] at q; cases q⟩
  keep := fun i h h' ⟨hz, hTI, ⟨x, y, hTO⟩, n1, n2⟩ k => ⟨k z (by simp) _ hz, k TI (by simp) _ hTI, ⟨x, y, k TO (by simp) _ hTO⟩, n1.at fun o q => k i1 (by simp) o q, n2.at fun o q => k i2 (by simp) o q⟩
  item := by
    intro X hP hw hK hc i pins s σ H E I hf st hg
    subst hP hw hK
    obtain ⟨hz, hTI, ⟨x0, y0, hTO⟩, n1, n2⟩ := st
    obtain ⟨xs, ys, x, y, qx, qy, hx, hy⟩ := hg
    obtain ⟨us, rv, p, _⟩ := inv_sq I qx
    obtain ⟨us2, rv2, p2, _⟩ := inv_sq I qy
    obtain ⟨u, hu, ru⟩ := rv.get hx
    obtain ⟨u2, hu2, ru2⟩ := rv2.get hy
    have zl : z < s.heap.objs.size := Heap.lt_size hz
    refine zk_nx D hz hTI hTO n1 n2 p p2 (x := u) (y := u2) (by simpa using hu) (by simpa using hu2) fun g z1 o1 m1 m2 hT hk => ⟨_, rfl, wpAny_letOwnedTupleGo_zip (s := { s with heap := g }) z1 fun g2 z2 sb => ?_⟩
    have hT2 : g2.get? s.heap.objs.size = some { cls := .type "tuple", data := .seq #[u, u2] } := (sb.2 _ (Nat.ne_of_gt zl)).trans hT
    have nw : ObjOk X.prog X.w (upd H s.heap.objs.size (.tup [x, y])) g2 s.heap.objs.size (.tup [x, y]) := ⟨(by decide : 2 ≤ sizeLine), [u, u2], .cons ru (.cons ru2 .nil), ⟨_, hT2, rfl, _, rfl⟩⟩
    have I1 : Inv X pins σ (upd H s.heap.objs.size (.tup [x, y])) { s with heap := g2 } := I.turnedNew (t' := s.toks) (ch := [z, TI, TO, i1, i2]) (fun c o hb q => (sb.2 c (fun q' => hb (by simp [q']))).trans (hk c o (fun q' => hb (by simp [q'])) (fun q' => hb (by simp [q'])) (fun q' => hb (by simp [q'])) (fun q' => hb (by simp [q'])) q)) hf (Nat.le_refl _) nw
    refine ⟨.ref s.heap.objs.size, _, I1, rfl, ⟨_, x, y, rfl, I.hok.fresh (Nat.le_refl _), rfl, fun l hl => by rw [sq_inj I hl qx]; exact hx, fun l hl => by rw [sq_inj I hl qy]; exact hy⟩, ⟨z2, ?_, ⟨u, u2, (sb.2 _ D.TOz).trans o1⟩, m1.at fun o q => (sb.2 _ D.i1z).trans q, m2.at fun o q => (sb.2 _ D.i2z).trans q⟩, fun c hcm => ?_⟩
    · exact (sb.2 _ D.TIz).trans (hk _ _ D.TIz D.TITO D.TIi1 D.TIi2 hTI)
    · have hlt : c < s.heap.objs.size := by
        obtain ⟨p1, fs1, e1, _⟩ := n1.ob
        obtain ⟨p2, fs2, e2, _⟩ := n2.ob
        have hcm : c = z ∨ c = TI ∨ c = TO ∨ c = i1 ∨ c = i2 := by simpa using hcm
        rcases hcm with rfl | rfl | rfl | rfl | rfl
        · exact zl
        · exact Heap.lt_size hTI
        · exact Heap.lt_size hTO
        · exact Heap.lt_size e1
        · exact Heap.lt_size e2
      rw [upd_ne (Nat.ne_of_lt hlt)]
      exact (hf c hcm).1
  done := by
    intro X hP hw hK hc i pins s σ H E I hf st hg
    subst hP hw hK
    obtain ⟨hz, hTI, ⟨x0, y0, hTO⟩, n1, n2⟩ := st
    obtain ⟨xs, ys, qx, qy, hend⟩ := hg
    obtain ⟨us, rv, p, _⟩ := inv_sq I qx
    obtain ⟨us2, rv2, p2, _⟩ := inv_sq I qy
    have e1 := rv.length
    have e2 := rv2.length
    refine zk_nx0 (I.ok.hd hc) D hz hTI hTO n1 n2 p p2 ?_ fun g hk => ⟨rfl, I.turnedL (t' := s.toks) (ch := [z, TI, TO, i1, i2]) (fun c o hb q => hk c o (fun q' => hb (by simp [q'])) (fun q' => hb (by simp [q'])) (fun q' => hb (by simp [q'])) (fun q' => hb (by simp [q'])) q) hf⟩
    rcases hend with q | q
    · exact .inl (by simp; omega)
    · exact .inr (by simp; omega)
  self := fun A i s Q E st h => wpAny_pyIter_zip st.1 h
def iZipK (K : PySem.W.Frag) (ta : TA) : TI := fun σ H R => ta σ H fun vs H1 => ∃ t1 t2 a b xs ys, vs = [.ref a, .ref b] ∧ SqX t1 K H1 a xs ∧ SqX t2 K H1 b ys ∧ R (ItzK t1 t2 K a b) H1
theorem pi_zipK {X : Cx} {e e2 : Expr} {ta : TA} {p pos tpos : Pos} {elts : List Expr} {kk : Nat} (hg : Gl X "zip") (hm : X.mg "zip" = none) (ha : PA X [e, e2] ta) (hs : starEach [e, e2] X.env = (false, eval e X.env) :: starEach [e2] X.env := by rfl) (hpl : (backTo pos (starEach [e2] X.env)).any (·.1) = false := by rfl) : PI X (.Tuple elts kk tpos) (.Call (.Name "zip" p) [e, e2] [] pos) (iZipK X.K ta) := by
  refine ⟨fun pins s σ H R I h => PyProof.Rows.Call_ (ld_blt I hg hm PyProof.Rows.boot_zip (PyProof.Rows.callWith_type1 (thn (ha.run pos pins s σ H _ I h) fun us s1 ⟨vs, H1, I1, r1, t1, t2, a, b, xs, ys, ex, qx, qy, q⟩ => ?_) hs hpl))⟩
  subst ex
  cases r1 with
  | cons r rr =>
    cases rr with
    | cons r' rr =>
      cases rr; cases r; cases r'
      obtain ⟨its, rv, p1, la⟩ := inv_sq I1 qx
      obtain ⟨its2, rv2, p2, lb⟩ := inv_sq I1 qy
      refine zk_call p1 p2 fun g hz hTI hTO n1 n2 hk => wpAny_pyIter_zip hz ?_
      have I2 : Inv X pins σ H1 { s1 with heap := g } := I1.kept (t' := s1.toks) hk
      refine ⟨s1.heap.objs.size + 4, [s1.heap.objs.size + 4, s1.heap.objs.size + 2, s1.heap.objs.size + 3, s1.heap.objs.size, s1.heap.objs.size + 1], _, _, H1, rfl, I2, turn_zk (PySem.W.ktu_apart s1.heap.objs.size a b la lb), ⟨hz, hTI, ⟨_, _, hTO⟩, n1, n2⟩, fun c hc => ?_, q⟩
      have hle : s1.heap.objs.size ≤ c := by
        simp only [List.mem_cons, List.not_mem_nil, or_false] at hc
        rcases hc with z | z | z | z | z <;> rw [z]
        · exact Nat.le_add_right _ _
        · exact Nat.le_add_right _ _
        · exact Nat.le_add_right _ _
        · exact Nat.le_refl _
        · exact Nat.le_add_right _ _
      exact I1.fpOk hle (I1.hok.fresh hle)
section
variable {X : Cx} {W : WX} {sc : Scope} {N : List Str} {e e2 : Expr} {pos p : Pos} {f g : DF}
theorem itd_zk {K : PySem.W.Frag} {G : Gh} {H : Hp} {t1 t2 : Bool} {a b : Addr} {xs ys : List V} {ds es : List PyData} {fr : Bool} (sq : ∀ G2 H2, Le G H G2 H2 → SqX t1 K H2 a xs) (hd : DnA K (rg G fr) H xs ds) (sq' : ∀ G2 H2, Le G H G2 H2 → SqX t2 K H2 b ys) (hd' : DnA K (rg G fr) H ys es) : ItD K G H (ItzK t1 t2 K a b) (zipD ds es) fr := by
  have hl := hd.length
  have hl' := hd'.length
  have hl2 : (zipD ds es).length = min xs.length ys.length := by unfold zipD; simp [hl, hl']
  refine ⟨fun i G2 H2 hi e => ?_, fun i G2 H2 σ Γ v H3 hi e S y => ?_, fun G2 H2 e => ⟨xs, ys, sq G2 H2 e, sq' G2 H2 e, by rw [hl2]; omega⟩⟩
  · rw [hl2] at hi
    exact ⟨xs, ys, xs[i]'(by omega), ys[i]'(by omega), sq G2 H2 e, sq' G2 H2 e, by simp, by simp⟩
  · obtain ⟨T, x, z, rfl, hT, rfl, hy, hy'⟩ := y
    obtain ⟨d, h1, h2⟩ := (e.dna hd).get (hy xs (sq G2 _ e))
    obtain ⟨d', h1', h2'⟩ := (e.dna hd').get (hy' ys (sq' G2 _ e))
    obtain ⟨G3, e3, S3, h3⟩ := sta_pair S hT h2 h2'
    refine ⟨G3, _, ?_, e3, S3, h3⟩
    unfold zipD
    rw [List.getElem?_zipWith, h1, h1']
theorem seqA_sq {G : Gh} {H : Hp} {σ : St} {v : V} {x : AV} {y : List PyData × Bool} (h : seqA x = some y) (w : Wf G H) (hv : AVok X.K G H σ v x) : ∃ (t : Bool) (a : Addr) (xs : List V), v = .ref a ∧ (∀ G2 H2, Le G H G2 H2 → SqX t X.K H2 a xs) ∧ SqX t X.K H a xs ∧ DnA X.K (rg G y.2) H xs y.1 := by
  unfold seqA at h
  split at h
  · rename_i fr ds
    cases h
    obtain ⟨l, xs, rfl, g1, g2⟩ := dn_list hv
    exact ⟨false, l, xs, rfl, fun G2 H2 e => ((g1.mono (e.rgl fr)).mono (e.w.rgl fr)).sq, (g1.mono (w.rgl fr)).sq, g2⟩
  · rename_i fr ds
    cases h
    obtain ⟨l, xs, rfl, g1, g2⟩ := dn_tupleH hv
    exact ⟨true, l, xs, rfl, fun G2 H2 e => SqT.of (e.t _ _ g1), SqT.of g1, g2⟩
  · cases h
def iZipX (f g : DF) : DI := fun Γ => (f Γ).bind fun x => (g x.2).bind fun y => (R.ofO (seqA x.1)).bind fun a => (R.ofO (seqA y.1)).bind fun b => .val ((zipD a.1 b.1, a.2 && b.2), y.2)
theorem ci_zipX (C : Cf0 X W sc N) {elts : List Expr} {kk : Nat} {tpos : Pos} (hg : glB sc "zip" = true) (hm : X.mg "zip" = none) (ha : CE X W e f) (hb : CE X W e2 g) (hs : starEach [e, e2] X.env = (false, eval e X.env) :: starEach [e2] X.env := by rfl) (hs2 : starEach [e2] X.env = (false, eval e2 X.env) :: starEach [] X.env := by rfl)
    (hpl : (backTo pos (starEach [e2] X.env)).any (·.1) = false := by rfl) : CI X W (.Tuple elts kk tpos) (.Call (.Name "zip" p) [e, e2] [] pos) (iZipX f g) := fun Γ =>
  pi_imp (pi_zipK (C.gl hg) hm (pa_cons (ha Γ) (pa_cons (pe_any fun x : AV × List Sl => hb x.2) pa_nil hs2) hs) hs hpl) fun σ H Q ⟨G, S, q⟩ => ⟨G, S, (Pst.bind q).imp fun x G1 H1 e1 q1 v S1 hv => ⟨x, G1, S1, (Pst.bind q1).imp fun y G2 H2 e2 q2 u S2 hu => by
    obtain ⟨a, ha', q2⟩ := Pst.ofO q2
    obtain ⟨b, hb', q2⟩ := Pst.ofO q2
    have q2 : ∀ J, Sta X.K G2 H2 σ y.2 → ItD X.K G2 H2 J (zipD a.1 b.1) (a.2 && b.2) → Q J H2 := q2 G2 H2 (Ext.rf S2.w)
    obtain ⟨t1, l1, xs, rfl, s1, s1', d1⟩ := seqA_sq ha' S2.w (hv.ext e2)
    obtain ⟨t2, l2, ys, rfl, s2, s2', d2⟩ := seqA_sq hb' S2.w hu
    exact ⟨t1, t2, l1, l2, xs, ys, rfl, s1', s2', q2 _ S2 (itd_zk s1 (d1.mono (rg_and1 G2 a.2 b.2) (TupLe.rf _)) s2 (d2.mono (rg_and2 G2 a.2 b.2) (TupLe.rf _)))⟩⟩⟩
end
end PD
set_option Elab.async false
set_option linter.all false
set_option maxRecDepth 100000
set_option maxHeartbeats 4000000
set_option autoImplicit false
namespace PD
open PySem L2
end PD
set_option Elab.async false
set_option linter.all false
set_option maxRecDepth 100000
set_option maxHeartbeats 4000000
set_option autoImplicit false
namespace PD
open PySem L2
section
variable {X : Cx} {W : WX} {sc : Scope} {N : List Str} {e : Expr} {es : List Expr} {pos p : Pos} {x : Str} {dvs : List V} {dds : List PyData} {m : List Ar → R (Rs × List Sl)}
def CNum (X : Cx) (es : List Expr) (cs : List Int) : Prop := PA X es (fun _ H Q => Q (cs.map V.int) H)
theorem cnum_nil : CNum X [] [] := ⟨fun pos pins s σ H Q I h => (pa_nil : PA X [] tNil).run pos pins s σ H Q I h⟩
theorem cnum_cons {c : Int} {j : Nat} {cp : Pos} {cs : List Int} (h : CNum X es cs) (hs : starEach (.Constant (.int c) j cp :: es) X.env = (false, eval (.Constant (.int c) j cp) X.env) :: starEach es X.env := by rfl) : CNum X (.Constant (.int c) j cp :: es) (c :: cs) :=
  ⟨fun pos pins s σ H Q I q => (pa_cons (pe_int (X := X)) h hs).run pos pins s σ H Q I q⟩
def arN (c : Cl) (cs : List Int) (dds : List PyData) : List Ar := .c c :: ((cs.map PyData.int) ++ dds).map Ar.d
def xCallN (m : List Ar → R (Rs × List Sl)) (dds : List PyData) (n0 : DC) (cs : List Int) : DX := fun Γ => (n0 Γ).bind fun z => (R.req z.1.fl).bind fun _ => ((m (arN z.1 cs dds)).atX z.2).bind fun r => .val (r.1, z.2)
theorem args_new {K : PySem.W.Frag} {H2 : Hp} {v : V} {c : Cl} {cs : List Int} {fp : List Addr} {B : Hp} (hc : c.ok K (RN B) H2 v fp) (hB : ∀ a o, B a = some o → H2 a = some o ∧ a ∉ fp) (al : ∀ p ∈ fp, H2 p ≠ none) (hdv : DnA K (fun a o => H2 a = some o ∧ a ∉ fp) H2 dvs dds) :
    ArgsU K H2 (v :: (cs.map V.int ++ dvs)) (arN c cs dds) (fun i => if i = 0 then fp else []) fp B where
  len := by
    have := hdv.length
    simp [arN, this]
  dat := fun i y hy => by
    cases i with
    | zero => simp [arN] at hy
    | succ i =>
      have hd : DnA K (fun a o => H2 a = some o ∧ a ∉ fp) H2 (cs.map V.int ++ dvs) (cs.map PyData.int ++ dds) := (ints_dna cs).append hdv
      have hy : ((cs.map PyData.int ++ dds).map Ar.d)[i]? = some (.d y) := by simpa [arN] using hy
      obtain ⟨w, h1, h2⟩ := dna_at hd hy
      exact ⟨w, by simpa using h1, h2⟩
  cel := fun i c' hy => by
    cases i with
    | zero =>
      have : c = c' := by simpa [arN] using hy
      subst this
      exact ⟨v, rfl, by simpa using hc⟩
    | succ i =>
      have hy : ((cs.map PyData.int ++ dds).map Ar.d)[i]? = some (.c c') := by simpa [arN] using hy
      rw [List.getElem?_map] at hy
      cases h : (cs.map PyData.int ++ dds)[i]? with
      | none => rw [h] at hy; cases hy
      | some z => rw [h] at hy; cases hy
  emp := fun i h => by
    cases i with
    | zero => exact absurd rfl (h c)
    | succ i => simp
  all := fun i q hq => by
    cases i with
    | zero => simpa using hq
    | succ i => simp at hq
  al := al
  dj := fun i j q hi hj => by
    cases i with
    | zero => cases j with
      | zero => rfl
      | succ j => simp at hj
    | succ i => simp at hi
  nat := fun i y hy => by
    cases i with
    | zero => simp [arN] at hy
    | succ i =>
      have hy : ((cs.map PyData.int ++ dds).map Ar.d)[i]? = some (.n y) := by simpa [arN] using hy
      rw [List.getElem?_map] at hy
      cases h : (cs.map PyData.int ++ dds)[i]? with
      | none => rw [h] at hy; cases hy
      | some z => rw [h] at hy; cases hy
  bok := hB
theorem cx_callN (C : Cf0 X W sc N) {n0 : DC} {cs : List Int} (hc : Clee X x dvs (spU X.K X.mg m)) (hg : glB sc x = true) (hdv : ∀ G H, DnA X.K G H dvs dds) (h0 : CC X W e n0) (ha : CNum X es cs)
    (hdb : (x == ("__debug__" : Str)) = false := by decide +kernel) (he : starEach (e :: es) X.env = (false, eval e X.env) :: starEach es X.env := by rfl) (hpl : (backTo pos (starEach es X.env)).any (·.1) = false := by rfl) : CX X W (.Call (.Name x p) (e :: es) [] pos) (xCallN m dds n0 cs) := fun Γ => by
  obtain ⟨k', f, fd, ps, dss, F, hr, hm, hk, hb, hd⟩ := hc
  refine pe_imp (pe_callSD (E := fun σ cls d H => W cls d σ H) F hr (C.gl hg) hm hk hb hd (fun σ => passAt C.tk σ) (pa_cons (h0 Γ) ha he) hdb he hpl) fun σ H Q ⟨G, S, q⟩ => ⟨G, S, (Pst.bind q).imp fun z G1 H1 e1 p1 v H2 S1 nc => ?_⟩
  obtain ⟨hfl, p1⟩ := Pst.req p1
  obtain ⟨fp, n1, n2, n3⟩ := nc
  have hsub : ∀ a o, H1 a = some o → H2 a = some o ∧ a ∉ fp := fun a o h => by
    have : a ∉ fp := fun hf => by rw [(n2 a hf).1] at h; cases h
    exact ⟨by rw [n1 a this]; exact h, this⟩
  have hno : ∀ a, H2 a = none → H1 a = none := fun a h => by
    cases h1 : H1 a with
    | none => rfl
    | some o => rw [(hsub a o h1).1] at h; cases h
  refine ⟨_, _, _, G1.N, args_new (cs := cs) n3 (fun a o h => hsub a o (S1.w.new a o h).1) (fun p hp => (n2 p hp).2) (hdv _ _), ?_⟩
  cases hm' : m (arN z.1 cs dds) with
  | bad => rw [hm'] at p1; exact p1
  | exc y =>
    rw [hm'] at p1
    intro H' N' F' Cl' d P g1 g2
    obtain ⟨G', S', e', l⟩ := call_end S1 (fun a o h => P.keep a o (hsub a o h).1 (hsub a o h).2) (fun a o h => ⟨(P.new a o h).1, (P.new a o h).2.imp (hno a) id⟩)
    refine p1 G' H' σ Cl' d e' S' g1 ?_
    rcases g2 with ⟨a, fs, q1, q2, q3, q4⟩ | q
    · exact .inl ⟨a, fs, q1, l _ _ q2, q3, q4.mono l (TupLe.rf _)⟩
    · exact .inr q
  | val r =>
    rw [hm'] at p1
    intro H' N' F' P
    obtain ⟨G', S', e', l⟩ := call_end S1 (fun a o h => P.keep a o (hsub a o h).1 (hsub a o h).2) (fun a o h => ⟨(P.new a o h).1, (P.new a o h).2.imp (hno a) id⟩)
    have q := p1 G' H' e'
    obtain ⟨r1, r2⟩ := r
    cases r1 with
    | d y => exact fun w hw => q w S' (hw.mono l (TupLe.rf _))
    | c y => exact fun w H3 ⟨fp', k1, k2, k3⟩ => q w H3 S' ⟨fp', k1, k2, Cl.mono k3 l (fun _ _ => rfl) (TupLe.rf _)⟩
def nX (f : DX) : DC := fun Γ => (f Γ).bind fun z => (R.ofO (rsC z.1)).bind fun c => .val (c, z.2)
theorem cc_x {f : DX} (h : CX X W e f) : CC X W e (nX f) := fun Γ => pe_imp (h Γ) fun σ H Q ⟨G, S, q⟩ => ⟨G, S, (Pst.bind q).imp fun z G1 H1 e1 p1 => by
  obtain ⟨r, Γ1⟩ := z
  cases r with
  | d y => exact p1.elim
  | c c =>
    intro v H2 S1 nc
    exact p1 G1 H1 (Ext.rf S1.w) v H2 S1 nc⟩
end
end PD
set_option Elab.async false
set_option linter.all false
set_option maxRecDepth 100000
set_option maxHeartbeats 4000000
set_option autoImplicit false
namespace PD
open PySem L2
section
variable {X : Cx} {W : WX} {sc : Scope} {N : List Str} {e : Expr} {pos p1 : Pos} {x : Str}
end
end PD
set_option Elab.async false
set_option linter.all false
set_option maxRecDepth 100000
set_option maxHeartbeats 4000000
set_option autoImplicit false
namespace PD
open PySem L2
inductive ArsOk (K : PySem.W.Frag) (H : Hp) (R : Rg) (B : Hp) : List V → List Ar → Prop
  | nil : ArsOk K H R B [] []
  | d {v : V} {vs : List V} {x : PyData} {as : List Ar} : Dn K R H v x → ArsOk K H R B vs as → ArsOk K H R B (v :: vs) (.d x :: as)
  | n {v : V} {vs : List V} {x : PyData} {as : List Ar} : Dn K (RN B) H v x → ArsOk K H R B vs as → ArsOk K H R B (v :: vs) (.n x :: as)
section
variable {K : PySem.W.Frag} {H : Hp} {R : Rg} {B : Hp}
theorem ArsOk.length : ∀ {vs : List V} {as : List Ar}, ArsOk K H R B vs as → vs.length = as.length
  | _, _, .nil => rfl
  | _, _, .d _ r => by simp [r.length]
  | _, _, .n _ r => by simp [r.length]
theorem ArsOk.dat : ∀ {vs : List V} {as : List Ar} {i : Nat} {x : PyData}, ArsOk K H R B vs as → as[i]? = some (.d x) → ∃ v, vs[i]? = some v ∧ Dn K R H v x
  | _, _, _, _, .nil, e => by simp at e
  | _, _, 0, _, .d h _, e => by simp at e; subst e; exact ⟨_, rfl, h⟩
  | _, _, 0, _, .n h _, e => by simp at e
  | _, _, i + 1, x, .d _ r, e => by obtain ⟨v, h1, h2⟩ := r.dat (i := i) (x := x) (by simpa using e); exact ⟨v, by simpa using h1, h2⟩
  | _, _, i + 1, x, .n _ r, e => by obtain ⟨v, h1, h2⟩ := r.dat (i := i) (x := x) (by simpa using e); exact ⟨v, by simpa using h1, h2⟩
theorem ArsOk.nat : ∀ {vs : List V} {as : List Ar} {i : Nat} {x : PyData}, ArsOk K H R B vs as → as[i]? = some (.n x) → ∃ v, vs[i]? = some v ∧ Dn K (RN B) H v x
  | _, _, _, _, .nil, e => by simp at e
  | _, _, 0, _, .n h _, e => by simp at e; subst e; exact ⟨_, rfl, h⟩
  | _, _, 0, _, .d h _, e => by simp at e
  | _, _, i + 1, x, .d _ r, e => by obtain ⟨v, h1, h2⟩ := r.nat (i := i) (x := x) (by simpa using e); exact ⟨v, by simpa using h1, h2⟩
  | _, _, i + 1, x, .n _ r, e => by obtain ⟨v, h1, h2⟩ := r.nat (i := i) (x := x) (by simpa using e); exact ⟨v, by simpa using h1, h2⟩
theorem ArsOk.split : ∀ {v1 v2 : List V} {as : List Ar}, ArsOk K H R B (v1 ++ v2) as → ArsOk K H R B v1 (as.take v1.length) ∧ ArsOk K H R B v2 (as.drop v1.length)
  | [], v2, as, h => ⟨.nil, h⟩
  | v :: v1, v2, _, .d h r => by obtain ⟨q1, q2⟩ := ArsOk.split (v1 := v1) r; exact ⟨.d h q1, q2⟩
  | v :: v1, v2, _, .n h r => by obtain ⟨q1, q2⟩ := ArsOk.split (v1 := v1) r; exact ⟨.n h q1, q2⟩
end
def rdAs (Γ : List Sl) (i : Option Nat) : List Bool → List AV → Option (List Ar)
  | _, [] => some []
  | true :: ms, .d fr x :: as => if fr || flat x then (rdAs Γ i ms as).map (.n x :: ·) else none
  | true :: _, .s _ :: _ => none
  | false :: ms, .d _ x :: as => (rdAs Γ i ms as).map (.d x :: ·)
  | false :: ms, .s j :: as => if some j = i then none else (rdW Γ j).bind fun x => (rdAs Γ i ms as).map (.d x :: ·)
  | [], .d _ x :: as => (rdAs Γ i [] as).map (.d x :: ·)
  | [], .s j :: as => if some j = i then none else (rdW Γ j).bind fun x => (rdAs Γ i [] as).map (.d x :: ·)
section
variable {X : Cx} {W : WX} {sc : Scope} {N : List Str} {x : Str} {e : Expr} {es : List Expr} {p pos : Pos} {k : DA} {dvs : List V} {dds : List PyData} {m : List Ar → R (Rs × List Sl)}
def xCallM (m : List Ar → R (Rs × List Sl)) (ms : List Bool) (dds : List PyData) (k : DA) : DX := fun Γ => (k Γ).bind fun z => (R.ofO (rdAs z.2 none ms z.1)).bind fun ars => ((m (ars ++ dds.map Ar.d)).atX z.2).bind fun r => .val (r.1, z.2)
end
end PD
set_option Elab.async false
set_option linter.all false
set_option maxRecDepth 100000
set_option maxHeartbeats 4000000
set_option autoImplicit false
namespace PD
open PySem L2
section
variable {X : Cx} {W : WX} {sc : Scope} {N : List Str} {a b e : Expr} {pos : Pos} {f g : DF}
end
end PD
set_option Elab.async false
set_option linter.all false
set_option maxRecDepth 100000
set_option maxHeartbeats 4000000
set_option autoImplicit false
namespace PD
open PySem L2
section
variable {X : Cx} {W : WX} {sc : Scope} {N : List Str} {pos : Pos}
end
end PD
set_option Elab.async false
set_option linter.all false
set_option maxRecDepth 100000
set_option maxHeartbeats 4000000
set_option autoImplicit false
namespace PD
open PySem PySem.Spec L2
open PyProof.Rows (AllBare)
section
variable {X : Cx} {pins : List (Addr × Obj)} {σ : St} {H : Hp} {sI s' : Shared} {B : Heap}
end
section
variable {X : Cx} {x n : Str} {c : Value} {i : Nat} {body suite : List Stmt} {b0 : Stmt} {np pos pos2 : Pos} {tb : WX → TS} {ts : Addr → TS} {Wout : WX}
end
end PD
set_option Elab.async false
set_option linter.all false
set_option maxRecDepth 100000
set_option maxHeartbeats 4000000
set_option autoImplicit false
namespace PD
open PySem PySem.Spec L2
open PyProof.Rows (AllBare)
structure XF (K : PySem.W.Frag) (C : Addr) : Prop where
  cl : (PySem.W.clsIn K C).isSome = true
  ga : PySem.W.findIn K (.ref C) "__getattribute__" = some (some (.builtin "BaseException.__getattribute__"))
  gt : PySem.W.findIn K (.ref C) "__getattr__" = some none
  sb : PySem.W.subIn K (.ref C) (.type "BaseException") = some true
  hd : PySem.W.hasDictIn K C = true
  ca : PySem.W.findIn K (.ref C) "__class__" = some (some (.builtin "object.__class__"))
  gn : PySem.W.specialIn K (.builtin "object.__class__") "__get__" = some (some (.builtin "getset_descriptor.__get__"))
  tk : PySem.W.takesIn K (.builtin "object.__class__") = some true
  mo : PySem.W.mroIn K C (.type "object") = some true
  ty : PySem.W.typeIn K (.ref C) = some (.type "type")
section
variable {X : Cx} {pins : List (Addr × Obj)} {σ : St} {H : Hp} {s : Shared}
end
section
variable {X : Cx} {W : WX} {sc : Scope} {N : List Str} {xs ds hs fs : List Str} {e : Expr} {p p2 p3 pos : Pos} {f : DF}
inductive ClNs (X : Cx) (sc : Scope) (ds : List Str) : List Expr → List Str → Prop
  | nil : ClNs X sc ds [] []
  | cons {D : Str} {p : Pos} {es : List Expr} {Ds : List Str} : D ∈ ds → glB sc D = true → (D = "ValueError" → X.mg D = none) → (D == ("__debug__" : Str)) = false → starEach (.Name D p :: es) X.env = (false, eval (.Name D p) X.env) :: starEach es X.env → ClNs X sc ds es Ds → ClNs X sc ds (.Name D p :: es) (D :: Ds)
theorem ClNs.mem {es : List Expr} {Ds : List Str} (h : ClNs X sc ds es Ds) : ∀ d ∈ Ds, d ∈ ds := by
  induction h with
  | nil => intro d hd; cases hd
  | cons h1 _ _ _ _ _ ih =>
    intro d hd
    rcases List.mem_cons.mp hd with z | z
    · rw [z]; exact h1
    · exact ih d z
end
end PD
set_option Elab.async false
set_option linter.all false
set_option maxRecDepth 100000
set_option maxHeartbeats 4000000
set_option autoImplicit false
namespace PD
open PySem PySem.Spec L2
open PyProof.Rows (AllBare)
section
variable {X : Cx} {W : WX} {sc : Scope} {N : List Str} {xs ds hs fs : List Str} {b s : DS} {body suite : List Stmt} {b0 : Stmt} {np pos pos2 : Pos}
theorem XdOk.mono {K : PySem.W.Frag} {G G' : Rg} {H H' : Hp} {d : Option Addr} {flds : List (Str × PyData)} (h : XdOk K G H d flds) (g : RgLe G G') (t : TupLe H H') : XdOk K G' H' d flds := by
  rcases h with ⟨dd, fl, rfl, g2, e1, e2⟩ | ⟨rfl, rfl⟩
  · exact .inl ⟨dd, fl, rfl, g _ _ g2, e1, e2.mono g t⟩
  · exact .inr ⟨rfl, rfl⟩
end
section
variable {X : Cx} {W : WX} {sc : Scope} {N : List Str} {xs ds hs fs fns : List Str} {c : Str} {e : Expr} {es : List Expr} {k : DA} {p pos pos2 : Pos}
end
end PD
set_option Elab.async false
set_option linter.all false
set_option maxRecDepth 100000
set_option maxHeartbeats 4000000
set_option autoImplicit false
namespace PD
open PySem PySem.Spec L2
structure HuntC (K : PySem.W.Frag) (C : Addr) : Prop where
  rd : PySem.W.readsIn K C (.type "type") = true
  ga : PySem.W.specialIn K (.ref C) "__getattribute__" = some (some (.builtin "type.__getattribute__"))
  ini : PySem.W.findCls K (.ref C) (.type "type") "__init__" = some (.val (.builtin "ValueError.__init__"))
section
variable {X : Cx} {e : Expr} {es : List Expr} {ta : TA} {p1 p2 pos : Pos}
end
section
variable {P : Program} {w : World} {K : PySem.W.Frag} {mg : Str → Option Value} {base : Heap} {qual : Str} {params : Arguments} {body : List Stmt} {scope : Scope} {fI : Addr} {fd : FuncData} {CH : Addr}
end
section
variable {X : Cx} {W : WX} {sc : Scope} {N : List Str}
end
end PD
set_option Elab.async false
set_option linter.all false
set_option maxRecDepth 100000
set_option maxHeartbeats 4000000
set_option autoImplicit false
namespace PD
open PySem PySem.Spec PyProof.Rows L2
open L2H (RoomH)
structure FnQ (P : Program) (w : World) (K : PySem.W.Frag) (mg : Str → Option Value) (base : Heap) (k : Nat) (f : Addr) (fd : FuncData) (ps : List Str) (sp : Sp) : Prop where
  len : ∀ vs H Q E, sp vs H Q E → vs.length = ps.length
  run : ∀ (A : Around) (outer : List Env) (s : Shared) (H : Hp) (args : Args) (us : List Value) (vs : List V) (Q : VK) (E : XK), RoomH k A → Env0 P w K mg base A outer s H → BindsTo s fd args (ps.zip us) → Vals vs us → sp vs H Q E →
    codeAny (model P w) A (.call (.ref f) args) (CR (L2.CX P w) outer P w H s Q E) s
section
variable {P : Program} {w : World} {K : PySem.W.Frag} {mg : Str → Option Value} {base : Heap} {N ps : List Str} {qual : Str} {scope : Scope} {f : Addr} {cd : Value} {A : Around} {outer : List Env} {s s1 : Shared} {H : Hp} {E : XK} {us : List Value} {vs : List V}
end
structure HereQ (X : Cx) (W : WX) (P : Program) (w : World) (K : PySem.W.Frag) (mg : Str → Option Value) (base : Heap) (scope : Scope) (N : List Str) (k : Nat) : Prop where
  cf : Cf0 X W scope N
  prog : X.prog = P
  w : X.w = w
  K : X.K = K
  mg : X.mg = mg
  base : X.base = base
  room : RoomH k X.A
  fn : ∀ x, X.fn x = true
section
variable {P : Program} {w : World} {K : PySem.W.Frag} {mg : Str → Option Value} {base : Heap} {N ps : List Str} {name qual : Str} {scope : Scope} {f : Addr} {k : Nat} {params : Arguments} {body : List Stmt} {dvs : List V} {kws : List (Str × V)} {fd : FuncData}
end
def CleeQ (X : Cx) (x : Str) (dvs : List V) (sp : Sp) : Prop :=
  ∃ (k : Nat) (f : Addr) (fd : FuncData) (ps : List Str) (ds : List Value), FnQ X.prog X.w X.K X.mg X.base k f fd ps sp ∧ RoomH k X.A ∧ X.mg x = some (.ref f) ∧ PySem.W.keepIn X.K (.ref f) = true ∧ Binds X.K fd ps ds ∧ Vals dvs ds
section
variable {X : Cx} {W : WX} {sc : Scope} {N : List Str} {x : Str} {e : Expr} {es : List Expr} {p pos : Pos} {k : DA} {dvs : List V} {dds : List PyData} {m : List Ar → R (Rs × List Sl)} {t : TA}
theorem CleeQ.suite {sp : Sp} (h : CleeQ X x dvs sp) (a : Addr) (pn : List (Addr × Obj)) : CleeQ (X.suite a pn) x dvs sp := by
  obtain ⟨k, f, fd, ps, ds, h1, h2, h3⟩ := h
  exact ⟨k, f, fd, ps, ds, h1, ⟨h2.dp, h2.un⟩, h3⟩
end
def GvQ (P : Program) (w : World) (K : PySem.W.Frag) (mg : Str → Option Value) (base : Heap) (k : Nat) (x : Str) (dvs : List V) (sp : Sp) : Prop :=
  ∃ (f : Addr) (fd : FuncData) (ps : List Str) (ds : List Value), FnQ P w K mg base k f fd ps sp ∧ mg x = some (.ref f) ∧ PySem.W.keepIn K (.ref f) = true ∧ Binds K fd ps ds ∧ Vals dvs ds
theorem GvQ.u {P : Program} {w : World} {K : PySem.W.Frag} {mg : Str → Option Value} {base : Heap} {k k' : Nat} {x : Str} {dvs : List V} {m : List Ar → R (Rs × List Sl)} {scope : Scope} {X : Cx} {W : WX} {N : List Str} (g : GvQ P w K mg base k x dvs (spU K mg m)) (h : Here X W P w K mg base scope N k') (hk : k ≤ k') : CleeQ X x dvs (spU X.K X.mg m) := by
  obtain ⟨f, fd, ps, ds, h1, h2, h3, h4, h5⟩ := g
  have e1 := h.prog
  have e2 := h.w
  have e3 := h.K
  have e4 := h.mg
  have e5 := h.base
  subst e1 e2 e3 e4 e5
  exact ⟨k, f, fd, ps, ds, h1, (L2H.roomH_of h.room).mono hk, h2, h3, h4, h5⟩
end PD
set_option Elab.async false
set_option linter.all false
set_option maxRecDepth 100000
set_option maxHeartbeats 4000000
set_option autoImplicit false
namespace PD
open PySem PySem.Spec L2
theorem Clee.tr {X : Cx} {x : Str} {dvs : List V} {sp : Sp} (h : Clee X x dvs sp) {pn : List (Addr × Obj)} {xe : Value → Shared → Prop} : Clee (X.tr pn xe) x dvs sp := h
theorem CleeK.tr {X : Cx} {x : Str} {n : Nat} {ks : List Str} {dvs : List V} {sp : Sp} (h : CleeK X x n ks dvs sp) {pn : List (Addr × Obj)} {xe : Value → Shared → Prop} : CleeK (X.tr pn xe) x n ks dvs sp := h
theorem all_cons {p : Str → Prop} {a : Str} {as : List Str} (h : p a) (r : ∀ c ∈ as, p c) : ∀ c ∈ a :: as, p c := fun c hc => by
  rcases List.mem_cons.mp hc with z | z
  · rw [z]; exact h
  · exact r c z
structure IniC (K : PySem.W.Frag) (c : Str) : Prop where
  T : OexC K (He.ga K c)
  iC : PySem.W.findIn K (.ref (He.ga K c)) "__init__" = some (some (.ref (He.fAd K (c, some "__init__"))))
  tI : PySem.W.typeIn K (.ref (He.fAd K (c, some "__init__"))) = some (.type "function")
section
variable {P : Program} {w : World} {K : PySem.W.Frag} {mg : Str → Option Value} {base : Heap} {X : Cx} {W : WX} {scope : Scope} {N : List Str} {k : Nat} {xs ds hs fs : List Str} {c f f2 qual : Str} {params : Arguments} {body : List Stmt} {sc : Scope} {fd : FuncData}
end
def obsX (fx : List (PySem.W.Frag → Bool)) (fa : List He.Fa) (fn : List He.DefD) (K : PySem.W.Frag) : He.AlD := ((fx.all fun f => f K) && (He.obsD fa fn K).1, (He.obsD fa fn K).2)
def SaysX (fx : List (PySem.W.Frag → Bool)) (fa : List He.Fa) (fn : List He.DefD) (K : PySem.W.Frag) : Prop := obsX fx fa fn K = He.valD fn
theorem SaysX.d {fx : List (PySem.W.Frag → Bool)} {fa : List He.Fa} {fn : List He.DefD} {K : PySem.W.Frag} (c : SaysX fx fa fn K) : He.SaysD fa fn K := by
  have c : ((fx.all fun f => f K) && (He.obsD fa fn K).1, (He.obsD fa fn K).2) = He.valD fn := c
  have e1 : ((fx.all fun f => f K) && (He.obsD fa fn K).1) = true := congrArg (fun z : He.AlD => z.1) c
  have e2 : (He.obsD fa fn K).2 = (He.valD fn).2 := (Prod.mk.inj (c.trans (show He.valD fn = ((He.valD fn).1, (He.valD fn).2) from rfl))).2
  exact Prod.ext (Bool.and_eq_true_iff.mp e1).2 e2
theorem SaysX.x {fx : List (PySem.W.Frag → Bool)} {fa : List He.Fa} {fn : List He.DefD} {K : PySem.W.Frag} (c : SaysX fx fa fn K) (i : Nat) {f : PySem.W.Frag → Bool} (h : fx[i]? = some f := by rfl) : f K = true := by
  have c : ((fx.all fun f => f K) && (He.obsD fa fn K).1, (He.obsD fa fn K).2) = He.valD fn := c
  have e1 : ((fx.all fun f => f K) && (He.obsD fa fn K).1) = true := congrArg (fun z : He.AlD => z.1) c
  exact List.all_eq_true.mp (Bool.and_eq_true_iff.mp e1).1 f (List.mem_of_getElem? h)
end PD
set_option Elab.async false
set_option linter.all false
set_option maxRecDepth 100000
set_option maxHeartbeats 4000000
set_option autoImplicit false
namespace PD
open PySem PySem.Spec L2
open PyProof.Rows hiding St
section
variable {X : Cx} {W : WX} {sc : Scope} {N : List Str} {a b e o : Expr} {p p2 pos apos cpos : Pos} {f g h : DF}
end
end PD
set_option Elab.async false
set_option linter.all false
set_option maxRecDepth 100000
set_option maxHeartbeats 4000000
set_option autoImplicit false
namespace PD
open PySem PySem.Spec L2
open PyProof.Rows hiding St
section
variable {X : Cx} {W : WX} {sc : Scope} {N : List Str} {e : Expr} {p pos : Pos} {f : DF} {x : Str} {vs : List V} {ds : List PyData}
end
end PD
set_option Elab.async false
set_option linter.all false
set_option maxRecDepth 100000
set_option maxHeartbeats 4000000
set_option autoImplicit false
namespace PD
open PySem PySem.Spec L2
open PyProof.Rows hiding St
def tLk (t : TE) : TE := fun σ H Q => t σ H fun v H1 => Q v H1 ∨ ∃ d u, H1 d = some u ∧ Mut (some u) ∧ ∀ od, Q v (upd H1 d (.frz od u))
theorem pe_lk {X : Cx} {e : Expr} {t : TE} (h : PE X e t) : PE X e (tLk t) := by
  refine ⟨fun pins s σ H Q I hw => ?_⟩
  refine thn (h.run pins s σ H _ I hw) fun v s1 ⟨x, H1, I1, r, q⟩ => ?_
  rcases q with q | ⟨d, u, hd, mu, q⟩
  · exact ⟨x, H1, I1, r, q⟩
  · obtain ⟨od, I2⟩ := I1.lock hd mu
    exact ⟨x, _, I2, r, q od⟩
def frzK : AV × List Sl → R (AV × List Sl)
  | (.s i, Γ) => match Γ[i]? with
    | some (.own (.dic _ kvs)) => .val (.d true (.dict kvs), Γ.set i (.dat true (.dict kvs)))
    | _ => frzA (.s i, Γ)
  | z => frzA z
def dFrzK (f : DF) : DF := fun Γ => (f Γ).bind frzK
section
variable {X : Cx} {W : WX} {sc : Scope} {N : List Str} {e tg : Expr} {apos cpos p : Pos} {f : DF}
theorem frzK_ok {G : Gh} {H : Hp} {σ : St} {x : AV} {Γ : List Sl} {v : V} {Q : VK} (S : Sta X.K G H σ Γ) (hv : AVok X.K G H σ v x) (p : Pk X W G H σ (frzK (x, Γ)) Q) : Q v H ∨ ∃ d u, H d = some u ∧ Mut (some u) ∧ ∀ od, Q v (upd H d (.frz od u)) := by
  unfold frzK at p
  split at p
  · rename_i i Γ2 hz
    cases hz
    split at p
    · rename_i t kvs hi
      obtain ⟨d, u, hd, mu, k⟩ := S.lockDic i hi
      refine .inr ⟨d, u, hd, mu, fun od => ?_⟩
      obtain ⟨G2, S2, e2⟩ := k od
      have h2 : (Γ.set i (.dat true (.dict kvs)))[i]? = some (.dat true (.dict kvs)) := set_at (List.getElem?_eq_some_iff.mp hi).1
      obtain ⟨A2, T2⟩ := id S2
      obtain ⟨_, w, g1, g2⟩ := T2.sl i _ h2
      have hv : σ[i]? = some (some v) := hv
      rw [hv] at g1
      cases g1
      exact Pk.v' p e2 S2 g2
    · exact .inl (frz_ok S hv p)
  · exact .inl (frz_ok S hv p)
theorem ce_frzK (ha : CE X W e f) : CE X W e (dFrzK f) := fun Γ =>
  pe_imp (pe_lk (ha Γ)) fun σ H Q ⟨G, S, q⟩ => ⟨G, S, (Pst.bind q).imp fun x G1 H1 e1 p1 v S1 hv => frzK_ok (x := x.1) (Γ := x.2) S1 hv p1⟩
end
end PD
set_option Elab.async false
set_option linter.all false
set_option maxRecDepth 100000
set_option maxHeartbeats 4000000
set_option autoImplicit false
namespace PD
open PySem PySem.Spec L2
open PyProof.Rows hiding St
section
variable {X : Cx} {W : WX} {sc : Scope} {N : List Str} {a b : Expr} {pos : Pos} {f g : DF}
end
end PD
set_option Elab.async false
set_option linter.all false
set_option maxRecDepth 100000
set_option maxHeartbeats 4000000
set_option autoImplicit false
namespace PD
open PySem L2
def pickP {α : Type} (pm : List Nat) (xs : List α) : List α := pm.filterMap fun i => xs[i]?
theorem Vals.pickP {xs : List V} {us : List Value} (h : Vals xs us) (pm : List Nat) : Vals (pickP pm xs) (pickP pm us) := by
  induction pm with
  | nil => exact .nil
  | cons i r ih =>
    unfold PD.pickP at ih ⊢
    rw [List.filterMap_cons, List.filterMap_cons]
    cases hx : xs[i]? with
    | none =>
      have : us[i]? = none := by
        rw [List.getElem?_eq_none_iff] at hx ⊢
        rw [← h.length]; exact hx
      rw [this]
      exact ih
    | some x =>
      obtain ⟨u, hu, r⟩ := h.get hx
      rw [hu]
      exact .cons r ih
section
variable {X : Cx} {W : WX} {sc : Scope} {N : List Str} {a b c e : Expr} {es : List Expr} {pos p : Pos} {Γ : List Sl}
theorem AVs.get {K : PySem.W.Frag} {G : Gh} {H : Hp} {σ : St} : ∀ {vs : List V} {as : List AV}, AVs K G H σ vs as → ∀ i : Nat, (vs[i]? = none ∧ as[i]? = none) ∨ ∃ v a, vs[i]? = some v ∧ as[i]? = some a ∧ AVok K G H σ v a
  | _, _, .nil, i => .inl ⟨by simp, by simp⟩
  | _, _, .cons h t, 0 => .inr ⟨_, _, by simp, by simp, h⟩
  | _, _, .cons h t, i + 1 => by simpa using AVs.get t i
theorem AVs.pickP {K : PySem.W.Frag} {G : Gh} {H : Hp} {σ : St} {vs : List V} {as : List AV} (h : AVs K G H σ vs as) (pm : List Nat) : AVs K G H σ (pickP pm vs) (pickP pm as) := by
  induction pm with
  | nil => exact .nil
  | cons i r ih =>
    unfold PD.pickP at ih ⊢
    rw [List.filterMap_cons, List.filterMap_cons]
    rcases h.get i with ⟨e1, e2⟩ | ⟨v, a, e1, e2, hv⟩
    · rw [e1, e2]; exact ih
    · rw [e1, e2]; exact .cons hv ih
def GvP (P : Program) (w : World) (K : PySem.W.Frag) (mg : Str → Option Value) (base : Heap) (k : Nat) (x : Str) (n : Nat) (ks : List Str) (pm : List Nat) (dvs : List V) (sp : Sp) : Prop :=
  ∃ (f : Addr) (fd : FuncData) (ps : List Str) (its : List Value), FnOk P w K mg base (L2.CX P w) k f fd ps sp ∧ mg x = some (.ref f) ∧ PySem.W.keepIn K (.ref f) = true ∧ KBn K fd ps n ks (fun us ws => pickP pm (us ++ ws ++ its)) (fun vs zs => pickP pm (vs ++ zs ++ dvs))
def CleeP (X : Cx) (x : Str) (n : Nat) (ks : List Str) (pm : List Nat) (dvs : List V) (sp : Sp) : Prop :=
  ∃ (k : Nat) (f : Addr) (fd : FuncData) (ps : List Str) (its : List Value), FnOk X.prog X.w X.K X.mg X.base (L2.CX X.prog X.w) k f fd ps sp ∧ Room k X.A ∧ X.mg x = some (.ref f) ∧ PySem.W.keepIn X.K (.ref f) = true ∧ KBn X.K fd ps n ks (fun us ws => pickP pm (us ++ ws ++ its)) (fun vs zs => pickP pm (vs ++ zs ++ dvs))
theorem GvP.clee {P : Program} {w : World} {K : PySem.W.Frag} {mg : Str → Option Value} {base : Heap} {k k' : Nat} {x : Str} {n : Nat} {ks : List Str} {pm : List Nat} {dvs : List V} {sp : Sp} {scope : Scope} (g : GvP P w K mg base k x n ks pm dvs sp) (h : Here X W P w K mg base scope N k') (hk : k ≤ k') : CleeP X x n ks pm dvs sp := by
  obtain ⟨f, fd, ps, its, g1, g2, g3, g4⟩ := g
  refine ⟨k, f, fd, ps, its, ?_, h.room.mono hk, ?_, ?_, ?_⟩
  · rw [h.prog, h.w, h.K, h.mg, h.base]; exact g1
  · rw [h.mg]; exact g2
  · rw [h.K]; exact g3
  · rw [h.K]; exact g4
theorem CleeP.blk {x : Str} {n : Nat} {ks : List Str} {pm : List Nat} {dvs : List V} {sp : Sp} (h : CleeP X x n ks pm dvs sp) {s : Shared} {H : Hp} {scope : Scope} {ce : Env} {fp : List Addr} : CleeP (X.blk s H scope ce fp) x n ks pm dvs sp := h
theorem GvP.u {P : Program} {w : World} {K : PySem.W.Frag} {mg : Str → Option Value} {base : Heap} {k k' : Nat} {x : Str} {n : Nat} {ks : List Str} {pm : List Nat} {dvs : List V} {m : List Ar → R (Rs × List Sl)} {scope : Scope} (g : GvP P w K mg base k x n ks pm dvs (spU K mg m)) (h : Here X W P w K mg base scope N k') (hk : k ≤ k') : CleeP X x n ks pm dvs (spU X.K X.mg m) := by
  have := g.clee h hk
  rw [h.K, h.mg]
  exact this
end
section
variable {X : Cx} {W : WX} {sc : Scope} {N : List Str} {a b c e : Expr} {es : List Expr} {pos p : Pos} {f : DF} {x : Str} {dvs : List V} {dds : List PyData} {m : List Ar → R (Rs × List Sl)} {kws : List Keyword} {ks : List Str} {n : Nat} {pm : List Nat} {k kk : DA}
theorem kitAny2U {K : PySem.W.Frag} {t a b : String} {x y : Bool} (h1 : kitB t a = some x) (h2 : kitB t b = some y) : PySem.W.kitAny K (.type t) [.type a, .type b] = some (x || y) :=
  kitAny_cons (b := x) (kit_ty h1) (fun hx => by subst hx; exact kitAny_cons (b := y) (kit_ty h2) (fun hy => by subst hy; rfl) (fun hy => by subst hy; rfl)) (fun hx => by subst hx; rfl)
theorem ce_isi2 (C : Cf X W sc N) (t u : Tn) {T U : Str} {p2 p3 p4 : Pos} {ek : Nat} (hg : glB sc "isinstance" = true) (hm : X.mg "isinstance" = none) (hgT : glB sc T = true) (hmT : X.mg T = none) (hgU : glB sc U = true) (hmU : X.mg U = none) (hv : bootBuiltins T = some (.type t.nm)) (hvU : bootBuiltins U = some (.type u.nm)) (ha : CE X W e f)
    (hnT : T ≠ "__name__" := by decide +kernel) (hdT : (T == ("__debug__" : Str)) = false := by decide +kernel) (hnU : U ≠ "__name__" := by decide +kernel) (hdU : (U == ("__debug__" : Str)) = false := by decide +kernel)
    (hst : starEach [e, .Tuple [.Name T p2, .Name U p3] ek p4] X.env = (false, eval e X.env) :: starEach [.Tuple [.Name T p2, .Name U p3] ek p4] X.env := by rfl) :
    CE X W (.Call (.Name "isinstance" p) [e, .Tuple [.Name T p2, .Name U p3] ek p4] [] pos) (dIsi [t, u] f) := fun Γ => by
  have hT : PE X (.Name T p2) (tC (.ty t.nm)) := pe_bltn (C.gl hgT) hmT hv rfl hnT hdT
  have hU : PE X (.Name U p3) (tC (.ty u.nm)) := pe_bltn (C.gl hgU) hmU hvU rfl hnU hdU
  refine pe_imp (pe_callB call_isiT (C.gl hg) hm PyProof.Rows.boot_isinstance (pa_cons (ha Γ) (pa_cons (pe_tup (pa_cons hT (pa_cons hU pa_nil rfl) rfl)) pa_nil rfl) hst) (by decide +kernel) (by decide +kernel) hst rfl) fun σ H Q ⟨G, S, q⟩ => ⟨G, S, (Pst.bind q).imp fun x G1 H1 e1 p1 v S1 hv => ?_⟩
  split at p1
  · rename_i d hd
    obtain ⟨hn, p1⟩ := Pst.req p1
    refine ⟨by show 2 ≤ sizeLine; decide, fun tp htp => ?_⟩
    obtain ⟨S2, e2⟩ := S1.grow (grow_new (o := .tup [.ty t.nm, .ty u.nm]) S1.w htp)
    have hh := dn_ty ((rdD_ok hd).ok S2 (AVok.ext hv e2)) hn
    refine ⟨v, tp, [.ty t.nm, .ty u.nm], .type (pyTy d), [.type t.nm, .type u.nm], tyIs d t || tyIs d u, rfl, upd_same, .cons (.ty t.nm) (.cons (.ty u.nm) .nil), hh, kitAny2U (tyIs_kit d t) (tyIs_kit d u), ?_⟩
    have := p1 _ _ e2 (.bl (tyIs d t || tyIs d u)) S2 (by show Dn _ _ _ _ (.bool (tyIs d t || (tyIs d u || false))); rw [Bool.or_false]; exact .bl _)
    exact this
  · exact p1.elim
end
end PD
set_option Elab.async false
set_option linter.all false
set_option maxRecDepth 100000
set_option maxHeartbeats 4000000
set_option autoImplicit false
namespace PD
open PySem PySem.Spec L2 Srt SrtO
open PyProof.Rows hiding St
section
variable {prog : Program} {w : World} {A : Around} {E : Value → Shared → Prop} {s : Shared} {l : Addr} {vs : List Value}
end
section
variable {X : Cx} {W : WX} {sc : Scope} {N : List Str} {a e : Expr} {p pos : Pos} {k : DA}
end
end PD
set_option Elab.async false
set_option linter.all false
set_option maxRecDepth 100000
set_option maxHeartbeats 4000000
set_option autoImplicit false
namespace PD
open PySem PySem.Spec L2
open PyProof.Rows hiding St
mutual
theorem dn_nested {K : PySem.W.Frag} {G : Rg} {H : Hp} {P : Program} {w : World} {h : Heap} (ok : HOk P w H h) : ∀ {v : V} {d : PyData}, Dn K G H v d → ∀ {k : NestedKey} {u : Value}, nkD d = some k → RelV v u → NestedIs h k u
  | _, _, .non, k, u, e, r => by rw [nkD] at e; cases e; cases r; exact .none
  | _, _, .bl b, k, u, e, r => by rw [nkD] at e; cases e; cases r; exact .bool rfl
  | _, _, .int i, k, u, e, r => by
    rw [nkD] at e; cases e
    obtain ⟨t, rfl⟩ := r
    exact .int i t
  | _, _, .str x, k, u, e, r => by simp [nkD] at e
  | _, _, .lst _ _, k, u, e, r => by simp [nkD] at e
  | _, _, .tup (xs := xs) (ds := ds) h1 a, k, u, e, r => by
    rw [nkD] at e
    cases e2 : nkDs ds with
    | none => rw [e2] at e; cases e
    | some ks =>
      rw [e2] at e; cases e
      cases r
      obtain ⟨_, its, rv, o, ho, hc, n, hd⟩ := (show ObjOk P w H h _ (.tup xs) from ok _ _ h1)
      exact .tup ho hc hd (by simpa using dna_nested ok a e2 rv)
  | _, _, .dct _ _ _, k, u, e, r => by simp [nkD] at e
  | _, _, .exc _ _ _ _, k, u, e, r => by simp [nkD] at e
  | _, _, .exc0 _, k, u, e, r => by simp [nkD] at e
  | _, _, .ins _ _ _ _, k, u, e, r => by simp [nkD] at e
  | _, _, .dcu _ _ _, k, u, e, r => by simp [nkD] at e
theorem dna_nested {K : PySem.W.Frag} {G : Rg} {H : Hp} {P : Program} {w : World} {h : Heap} (ok : HOk P w H h) : ∀ {vs : List V} {ds : List PyData}, DnA K G H vs ds → ∀ {ks : List NestedKey} {us : List Value}, nkDs ds = some ks → Vals vs us → NestedAll h ks us
  | _, _, .nil, ks, us, e, r => by rw [nkDs] at e; cases e; cases r; exact .nil
  | _, _, .cons (d := d) (ds := ds) h1 a, ks, us, e, r => by
    rw [nkDs] at e
    cases e1 : nkD d with
    | none => rw [e1] at e; cases e
    | some k =>
      rw [e1] at e
      cases e2 : nkDs ds with
      | none => rw [e2] at e; cases e
      | some ks2 =>
        rw [e2] at e; cases e
        cases r with
        | cons r1 r2 => exact .cons (dn_nested ok h1 e1 r1) (dna_nested ok a e2 r2)
end
def encN (l : List (PyData × PyData)) : List (PyData × PyData) := (.none, .none) :: l.flatMap fun z => [(z.1, z.2), (.none, z.1)]
mutual
def eqN : PyData → PyData → Bool
  | .none, .none => true
  | .bool a, .bool b => a == b
  | .int a, .int b => decide (a = b)
  | .tuple a, .tuple b => eqNs a b
  | _, _ => false
def eqNs : List PyData → List PyData → Bool
  | [], [] => true
  | a :: as, b :: bs => eqN a b && eqNs as bs
  | _, _ => false
end
mutual
theorem eqN_ok : ∀ a b : PyData, eqN a b = true → a = b
  | .none, b, h => by cases b <;> simp [eqN] at h; rfl
  | .bool x, b, h => by cases b <;> simp [eqN] at h; rw [h]
  | .int x, b, h => by cases b <;> simp [eqN] at h; rw [h]
  | .tuple xs, b, h => by cases b <;> simp [eqN] at h; rw [eqNs_ok xs _ h]
  | .str x, b, h => by simp [eqN] at h
  | .list x, b, h => by simp [eqN] at h
  | .dict x, b, h => by simp [eqN] at h
theorem eqNs_ok : ∀ a b : List PyData, eqNs a b = true → a = b
  | [], b, h => by cases b <;> simp [eqNs] at h; rfl
  | x :: xs, b, h => by
    cases b with
    | nil => simp [eqNs] at h
    | cons y ys =>
      rw [eqNs, Bool.and_eq_true] at h
      rw [eqN_ok x y h.1, eqNs_ok xs ys h.2]
end
def decL : List (PyData × PyData) → Option (List (PyData × PyData))
  | [] => some []
  | (k, v) :: (.none, k2) :: r => if eqN k k2 then (decL r).map ((k, v) :: ·) else none
  | _ => none
def decN : List (PyData × PyData) → Option (List (PyData × PyData))
  | (.none, .none) :: r => decL r
  | _ => none
theorem decL_ok : ∀ (r l : List (PyData × PyData)), decL r = some l → r = l.flatMap fun z => [(z.1, z.2), (.none, z.1)]
  | [], l, h => by rw [decL] at h; cases h; rfl
  | (k, v) :: (.none, k2) :: r, l, h => by
    rw [decL] at h
    split at h
    · rename_i e
      cases e2 : decL r with
      | none => rw [e2] at h; cases h
      | some l2 =>
        rw [e2] at h; cases h
        rw [decL_ok r l2 e2, eqN_ok _ _ e]
        rfl
    · cases h
  | [_], l, h => by simp [decL] at h
  | (k, v) :: (.bool _, k2) :: r, l, h => by simp [decL] at h
  | (k, v) :: (.int _, k2) :: r, l, h => by simp [decL] at h
  | (k, v) :: (.str _, k2) :: r, l, h => by simp [decL] at h
  | (k, v) :: (.list _, k2) :: r, l, h => by simp [decL] at h
  | (k, v) :: (.tuple _, k2) :: r, l, h => by simp [decL] at h
  | (k, v) :: (.dict _, k2) :: r, l, h => by simp [decL] at h
theorem decN_ok {kvs l : List (PyData × PyData)} (h : decN kvs = some l) : kvs = encN l := by
  unfold decN at h
  split at h
  · rw [decL_ok _ _ h]; rfl
  · cases h
inductive NdRel (K : PySem.W.Frag) (G : Rg) (H : Hp) : List (NestedKey × Addr × V) → List (PyData × PyData) → Prop
  | nil : NdRel K G H [] []
  | cons {r : NestedKey × Addr × V} {rs : List (NestedKey × Addr × V)} {k v : PyData} {l : List (PyData × PyData)} : nkD k = some r.1 → r.1.depth ≤ 8 → Dn K G H (.ref r.2.1) k → Dn K G H r.2.2 v → NdRel K G H rs l → NdRel K G H (r :: rs) ((k, v) :: l)
theorem ndRel_of0 {K : PySem.W.Frag} {G : Rg} {H : Hp} : ∀ (l : List (PyData × PyData)) (rs : List (NestedKey × Addr × V)) (kds : List PyData), kds.map nkD = rs.map (fun r => some r.1) → (∀ r ∈ rs, r.1.depth ≤ 8) → (l.flatMap fun z => [(z.1, z.2), (PyData.none, z.1)]).map (·.1) = kds.flatMap (fun d => [d, .none]) → DnA K G H (rs.flatMap fun r => [r.2.2, .ref r.2.1]) ((l.flatMap fun z => [(z.1, z.2), (PyData.none, z.1)]).map (·.2)) → NdRel K G H rs l
  | [], rs, kds, h1, h2, h3, hd => by
    cases rs with
    | nil => exact .nil
    | cons r rs => cases hd
  | z :: l, rs, kds, h1, h2, h3, hd => by
    cases rs with
    | nil => cases hd
    | cons r rs =>
      cases kds with
      | nil => cases h1
      | cons d kds =>
        have e1 := List.cons.inj h1
        simp only [List.flatMap_cons, List.cons_append, List.nil_append, List.map_cons, List.map_append] at h3 hd
        have e3 := List.cons.inj h3
        have e4 := List.cons.inj e3.2
        cases hd with
        | cons d1 hd =>
          cases hd with
          | cons d2 hd =>
            refine .cons ?_ (h2 r List.mem_cons_self) d2 d1 (ndRel_of0 l rs kds e1.2 (fun x hx => h2 x (List.mem_cons_of_mem _ hx)) e4.2 hd)
            rw [e3.1]; exact e1.1
theorem ndRel_of {K : PySem.W.Frag} {G : Rg} {H : Hp} {a : Addr} {o : HO} {vs : List V} {l : List (PyData × PyData)} (ho : DcO .n a o ((encN l).map (·.1)) vs) (hd : DnA K G H vs ((encN l).map (·.2))) : ∃ rs, o = NdO a rs ∧ NdRel K G H rs l := by
  obtain ⟨rs, kds, rfl, h1, h2, h3, rfl⟩ := ho
  refine ⟨rs, rfl, ?_⟩
  have h3 : (l.flatMap fun z => [(z.1, z.2), (PyData.none, z.1)]).map (·.1) = kds.flatMap fun d => [d, .none] := (List.cons.inj h3).2
  have hd : DnA K G H (rs.flatMap fun r => [r.2.2, .ref r.2.1]) ((l.flatMap fun z => [(z.1, z.2), (PyData.none, z.1)]).map (·.2)) := by
    cases hd with
    | cons _ h => exact h
  exact ndRel_of0 l rs kds h1 h2 h3 hd
theorem ndRel_to {K : PySem.W.Frag} {G : Rg} {H : Hp} {a : Addr} {rs : List (NestedKey × Addr × V)} {l : List (PyData × PyData)} (h : NdRel K G H rs l) : DcO .n a (NdO a rs) ((encN l).map (·.1)) (encV rs) ∧ DnA K G H (encV rs) ((encN l).map (·.2)) := by
  have key : (l.map (·.1)).map nkD = rs.map (fun r => some r.1) ∧ (∀ r ∈ rs, r.1.depth ≤ 8) ∧ (l.flatMap fun z => [(z.1, z.2), (PyData.none, z.1)]).map (·.1) = (l.map (·.1)).flatMap (fun d => [d, .none]) ∧ DnA K G H (rs.flatMap fun r => [r.2.2, .ref r.2.1]) ((l.flatMap fun z => [(z.1, z.2), (PyData.none, z.1)]).map (·.2)) := by
    induction h with
    | nil => exact ⟨rfl, fun _ h => (nomatch h), rfl, .nil⟩
    | @cons r rs k v l h1 h2 h3 h4 _ ih =>
      obtain ⟨i1, i2, i3, i4⟩ := ih
      refine ⟨?_, ?_, ?_, ?_⟩
      · simp only [List.map_cons]; rw [h1, i1]
      · intro x hx
        rcases List.mem_cons.mp hx with rfl | hx
        · exact h2
        · exact i2 x hx
      · simp only [List.flatMap_cons, List.map_cons, List.map_append, List.cons_append, List.nil_append, i3]
      · simp only [List.flatMap_cons, List.map_append, List.cons_append, List.nil_append]
        exact .cons h4 (.cons h3 i4)
  exact ⟨⟨rs, l.map (·.1), rfl, key.1, key.2.1, by show PyData.none :: _ = _; rw [key.2.2.1]; rfl, rfl⟩, .cons .non key.2.2.2⟩
theorem NdRel.mono {K : PySem.W.Frag} {G G' : Rg} {H H' : Hp} (g : RgLe G G') (t : TupLe H H') {rs : List (NestedKey × Addr × V)} {l : List (PyData × PyData)} (h : NdRel K G H rs l) : NdRel K G' H' rs l := by
  induction h with
  | nil => exact .nil
  | cons h1 h2 h3 h4 _ ih => exact .cons h1 h2 (h3.mono g t) (h4.mono g t) ih
theorem NdRel.len {K : PySem.W.Frag} {G : Rg} {H : Hp} {rs : List (NestedKey × Addr × V)} {l : List (PyData × PyData)} (n : NdRel K G H rs l) : rs.length = l.length := by
  induction n with
  | nil => rfl
  | cons _ _ _ _ _ ih => rw [List.length_cons, List.length_cons, ih]
def getN (l : List (PyData × PyData)) (k : PyData) : Option PyData := (l.find? fun z => decide (nkD z.1 = nkD k)).map (·.2)
def putN (l : List (PyData × PyData)) (k v : PyData) : List (PyData × PyData) := if l.any (fun z => decide (nkD z.1 = nkD k)) then l.map (fun z => if nkD z.1 = nkD k then (z.1, v) else z) else l ++ [(k, v)]
theorem NdRel.get {K : PySem.W.Frag} {G : Rg} {H : Hp} {k : PyData} {kk : NestedKey} (hk : nkD k = some kk) {rs : List (NestedKey × Addr × V)} {l : List (PyData × PyData)} (n : NdRel K G H rs l) : (ndGet rs kk = none ∧ getN l k = none) ∨ ∃ v d, ndGet rs kk = some v ∧ getN l k = some d ∧ Dn K G H v d := by
  induction n with
  | nil => exact .inl ⟨rfl, rfl⟩
  | @cons r rs k0 v0 l h1 h2 h3 h4 _ ih =>
    by_cases e : r.1 = kk
    · have e2 : nkD k0 = nkD k := by rw [h1, hk, e]
      exact .inr ⟨r.2.2, v0, by simp [ndGet, e], by simp [getN, e2], h4⟩
    · have e2 : ¬ nkD k0 = nkD k := by rw [h1, hk]; simpa using e
      have g1 : ndGet (r :: rs) kk = ndGet rs kk := by simp [ndGet, List.find?_cons, e]
      have g2 : getN ((k0, v0) :: l) k = getN l k := by simp [getN, List.find?_cons, e2]
      rw [g1, g2]; exact ih
theorem NdRel.any {K : PySem.W.Frag} {G : Rg} {H : Hp} {k : PyData} {kk : NestedKey} (hk : nkD k = some kk) {rs : List (NestedKey × Addr × V)} {l : List (PyData × PyData)} (n : NdRel K G H rs l) : rs.any (fun r => decide (r.1 = kk)) = l.any (fun z => decide (nkD z.1 = nkD k)) := by
  induction n with
  | nil => rfl
  | @cons r rs k0 v0 l h1 h2 h3 h4 _ ih =>
    rw [List.any_cons, List.any_cons, ih]
    congr 1
    rw [decide_eq_decide, h1, hk]
    simp
theorem NdRel.put1 {K : PySem.W.Frag} {G : Rg} {H : Hp} {k v : PyData} {kk : NestedKey} {y : V} (hk : nkD k = some kk) (hv : Dn K G H y v) {rs : List (NestedKey × Addr × V)} {l : List (PyData × PyData)} (n : NdRel K G H rs l) : NdRel K G H (rs.map (fun r => if r.1 = kk then (r.1, r.2.1, y) else r)) (l.map (fun z => if nkD z.1 = nkD k then (z.1, v) else z)) := by
  induction n with
  | nil => exact .nil
  | @cons r rs k0 v0 l h1 h2 h3 h4 _ ih =>
    rw [List.map_cons, List.map_cons]
    by_cases e : r.1 = kk
    · have e2 : nkD k0 = nkD k := by rw [h1, hk, e]
      rw [if_pos e, if_pos e2]
      exact .cons h1 h2 h3 hv ih
    · have e2 : ¬ nkD k0 = nkD k := by rw [h1, hk]; simpa using e
      rw [if_neg e, if_neg e2]
      exact .cons h1 h2 h3 h4 ih
theorem NdRel.put2 {K : PySem.W.Frag} {G : Rg} {H : Hp} {k v : PyData} {kk : NestedKey} {b : Addr} {y : V} (hk : nkD k = some kk) (hd : kk.depth ≤ 8) (hb : Dn K G H (.ref b) k) (hv : Dn K G H y v) {rs : List (NestedKey × Addr × V)} {l : List (PyData × PyData)} (n : NdRel K G H rs l) : NdRel K G H (rs ++ [(kk, b, y)]) (l ++ [(k, v)]) := by
  induction n with
  | nil => exact .cons hk hd hb hv .nil
  | cons h1 h2 h3 h4 _ ih => exact .cons h1 h2 h3 h4 ih
theorem NdRel.put {K : PySem.W.Frag} {G : Rg} {H : Hp} {k v : PyData} {kk : NestedKey} {b : Addr} {y : V} (hk : nkD k = some kk) (hd : kk.depth ≤ 8) (hb : Dn K G H (.ref b) k) (hv : Dn K G H y v) {rs : List (NestedKey × Addr × V)} {l : List (PyData × PyData)} (n : NdRel K G H rs l) : NdRel K G H (ndPut rs kk b y) (putN l k v) := by
  unfold ndPut putN
  rw [n.any hk]
  split
  · exact n.put1 hk hv
  · exact n.put2 hk hd hb hv
def nkOk (k : PyData) : Bool := match k with
  | .tuple _ => match nkD k with
    | some kk => decide (kk.depth ≤ 8)
    | none => false
  | _ => false
theorem nkOk_ok {k : PyData} (h : nkOk k = true) : (∃ xs, k = .tuple xs) ∧ ∃ kk, nkD k = some kk ∧ kk.depth ≤ 8 := by
  unfold nkOk at h
  split at h
  · rename_i xs
    split at h
    · rename_i kk e
      exact ⟨⟨xs, rfl⟩, kk, e, of_decide_eq_true h⟩
    · cases h
  · cases h
section
variable {X : Cx} {W : WX} {sc : Scope} {N : List Str} {a b c e : Expr} {pos : Pos} {f g : DF}
theorem ndA_frz {K : PySem.W.Frag} {G : Gh} {H : Hp} {v : V} {fr : Bool} {l : List (PyData × PyData)} (hv : Dn K (rg G fr) H v (.dict (encN l))) : ∃ p rs ob, v = .ref p ∧ rg G fr p (.frz ob (NdO p rs)) ∧ NdRel K (rg G fr) H rs l := by
  generalize hq : encN l = q at hv
  cases hv with
  | @dct p o t vs _ h1 h2 h3 =>
    subst hq
    cases t with
    | k =>
      obtain ⟨ks, _, h4, _⟩ := h2
      cases ks with
      | nil => cases h4
      | cons y s =>
        have h4 : PyData.none = keyD y.1 := (List.cons.inj h4).1
        cases hy : y.1 <;> rw [hy] at h4 <;> cases h4
    | t =>
      obtain ⟨ks, _, h4, _⟩ := h2
      cases ks with
      | nil => cases h4
      | cons y s =>
        have h4 := (List.cons.inj h4).1
        cases h4
    | n =>
      obtain ⟨rs, rfl, hr⟩ := ndRel_of h2 h3
      obtain ⟨ob, h1⟩ := h1
      exact ⟨p, rs, ob, rfl, h1, hr⟩
  | exc _ _ _ _ =>
    unfold encN at hq
    have := (List.cons.inj hq).1
    cases this
  | exc0 _ =>
    unfold encN at hq
    have := (List.cons.inj hq).1
    cases this
  | ins _ _ _ _ =>
    unfold encN at hq
    have := (List.cons.inj hq).1
    cases this
  | dcu _ _ _ =>
    unfold encN at hq
    have := (List.cons.inj hq).1
    cases this
theorem nget_key {pins : List (Addr × Obj)} {σ : St} {H : Hp} {s : Shared} {G' : Rg} {b : Addr} {k : PyData} {kk : NestedKey} (I : Inv X pins σ H s) (hk : Dn X.K G' H (.ref b) k) (e1 : nkD k = some kk) (e2 : kk.depth ≤ 8) : (nestedKind X.prog X.w).is s.heap kk b := ⟨dn_nested I.hok hk e1 rfl, e2⟩
end
end PD
set_option Elab.async false
set_option linter.all false
set_option maxRecDepth 100000
set_option maxHeartbeats 4000000
set_option autoImplicit false
namespace PD
open PySem PySem.Spec L2
open PyProof.Rows hiding St
theorem NdRel.at {K : PySem.W.Frag} {G : Rg} {H : Hp} {rs : List (NestedKey × Addr × V)} {l : List (PyData × PyData)} (n : NdRel K G H rs l) : ∀ {i : Nat} {r : NestedKey × Addr × V}, rs[i]? = some r → ∃ z, l[i]? = some z ∧ Dn K G H (.ref r.2.1) z.1 := by
  induction n with
  | nil => intro i r h; simp at h
  | @cons r0 rs k v l h1 h2 h3 h4 _ ih =>
    intro i r h
    cases i with
    | zero =>
      have : r0 = r := by simpa using h
      subst this
      exact ⟨(k, v), rfl, h3⟩
    | succ j => exact ih (by simpa using h)
section
variable {X : Cx} {W : WX} {sc : Scope} {N : List Str} {e tg : Expr} {f : DF}
end
end PD
set_option Elab.async false
set_option linter.all false
set_option maxRecDepth 100000
set_option maxHeartbeats 4000000
set_option autoImplicit false
namespace PD
open PySem PySem.Spec L2 Srt SrtO
open PySem.W (alike AllAlike Sortable dataLe EachIs)
open PyProof.Rows hiding St
section
variable {X : Cx} {pins : List (Addr × Obj)} {σ : St} {H : Hp} {s : Shared}
end
section
variable {X : Cx} {W : WX} {sc : Scope} {N : List Str} {a e : Expr} {p pos : Pos} {k : DA}
end
end PD
set_option Elab.async false
set_option linter.all false
set_option maxRecDepth 100000
set_option maxHeartbeats 4000000
set_option autoImplicit false
namespace PD
open PySem PySem.Spec L2
open PyProof.Rows hiding St
section
variable {X : Cx} {W : WX} {sc : Scope} {N : List Str} {e : Expr} {f : DX}
end
end PD
set_option Elab.async false
set_option linter.all false
set_option maxRecDepth 100000
set_option maxHeartbeats 4000000
set_option autoImplicit false
namespace PD
open PySem PySem.Spec L2
open PyProof.Rows hiding St
section
variable {X : Cx} {W : WX} {sc : Scope} {N : List Str} {a b : Expr} {pos : Pos} {f g : DF}
end
end PD
set_option Elab.async false
set_option linter.all false
set_option maxRecDepth 100000
set_option maxHeartbeats 4000000
set_option autoImplicit false
namespace PD
open PySem L2
section
variable {X : Cx} {W : WX} {sc : Scope} {N : List Str} {s : Stmt} {ss : List Stmt} {b : DS}
def lentL (Γ : List Sl) (i : Nat) : Option (List PyData) := match Γ[i]? with
  | some (.lent (.lst ds)) => some ds
  | _ => none
variable {tg : Expr} {x : Str} {p p2 pos : Pos}
end
end PD
set_option Elab.async false
set_option linter.all false
set_option maxRecDepth 100000
set_option maxHeartbeats 4000000
set_option autoImplicit false
namespace PD
open PySem L2
section
variable {X : Cx} {pins : List (Addr × Obj)} {σ : St} {H : Hp} {s : Shared} {a b : Addr} {u r : Value} {d : V} {k : List Key} {A : Around} {E : Value → Shared → Prop}
end
inductive LsOk (K : PySem.W.Frag) (G : Rg) (H : Hp) : List Addr → List (List PyData) → Prop
  | nil : LsOk K G H [] []
  | cons {q : Addr} {qs : List Addr} {xs : List V} {ds : List PyData} {l : List (List PyData)} : H q = some (.lst xs) → DnA K G H xs ds → LsOk K G H qs l → LsOk K G H (q :: qs) (ds :: l)
theorem LsOk.mono {K : PySem.W.Frag} {G G' : Rg} {H H' : Hp} (g : RgLe G G') (t : TupLe H H') {qs : List Addr} {l : List (List PyData)} (h : LsOk K G H qs l) : (∀ q ∈ qs, H' q = H q) → LsOk K G' H' qs l := by
  induction h with
  | nil => exact fun _ => .nil
  | cons a b _ ih => exact fun k => .cons (by rw [k _ List.mem_cons_self]; exact a) (b.mono g t) (ih fun q hq => k q (List.mem_cons_of_mem _ hq))
theorem leaves_inv {K : PySem.W.Frag} {G : Rg} {H : Hp} : ∀ {ds : List PyData} {vs : List V} {fp : List Addr}, TresOk K G H vs fp (ds.map Tre.d) → fp = [] ∧ DnA K G H vs ds
  | [], _, _, .nil => ⟨rfl, .nil⟩
  | d :: ds, _, _, .cons h t _ => by
    obtain ⟨rfl, h2⟩ := leaves_inv t
    cases h with
    | d h1 => exact ⟨rfl, .cons h1 h2⟩
theorem leaves_mk {K : PySem.W.Frag} {G : Rg} {H : Hp} : ∀ {ds : List PyData} {vs : List V}, DnA K G H vs ds → TresOk K G H vs [] (ds.map Tre.d)
  | _, _, .nil => .nil
  | _, _, .cons h t => TresOk.cons (f1 := []) (f2 := []) (.d h) (leaves_mk t) (fun _ h => absurd h (by simp))
theorem LsOk.get {K : PySem.W.Frag} {G : Rg} {H : Hp} {qs : List Addr} {l : List (List PyData)} (h : LsOk K G H qs l) : ∀ {i : Nat} {q : Addr}, qs[i]? = some q → ∃ xs ds, l[i]? = some ds ∧ H q = some (.lst xs) ∧ DnA K G H xs ds := by
  induction h with
  | nil => intro i q e; simp at e
  | cons a b _ ih =>
    intro i q e
    cases i with
    | zero => cases e; exact ⟨_, _, rfl, a, b⟩
    | succ i => exact ih (by simpa using e)
theorem LsOk.set {K : PySem.W.Frag} {G : Rg} {H : Hp} {qs : List Addr} {l : List (List PyData)} (h : LsOk K G H qs l) : ∀ {i : Nat} {q : Addr} {xs : List V} {ds : List PyData}, qs[i]? = some q → qs.Nodup → H q ≠ none → (∀ ys, H q ≠ some (.tup ys)) → DnA K G H xs ds → LsOk K G (upd H q (.lst xs)) qs (l.set i ds) := by
  induction h with
  | nil => intro i q xs ds e; simp at e
  | @cons q0 qs0 xs0 ds0 l0 a b c ih =>
    intro i q xs ds e nd hq ht hd
    obtain ⟨n1, n2⟩ := List.nodup_cons.mp nd
    have t : TupLe H (upd H q (.lst xs)) := fun c ys z => by
      have : c ≠ q := fun w => by rw [w] at z; exact ht ys z
      rw [upd_ne this]; exact z
    cases i with
    | zero =>
      cases e
      exact .cons upd_same (hd.mono (fun _ _ z => z) t) (c.mono (fun _ _ z => z) t fun c hc => upd_ne (fun w => n1 (by rw [← w]; exact hc)))
    | succ i =>
      have e : qs0[i]? = some q := by simpa using e
      have ne : q0 ≠ q := fun w => n1 (by rw [w]; exact List.mem_of_getElem? e)
      exact .cons (by rw [upd_ne ne]; exact a) (b.mono (fun _ _ z => z) t) (ih e n2 hq ht hd)
theorem LsOk.snoc {K : PySem.W.Frag} {G : Rg} {H : Hp} {q : Addr} {xs : List V} {ds : List PyData} {qs : List Addr} {l : List (List PyData)} (h : LsOk K G H qs l) (hq : H q = some (.lst xs)) (hd : DnA K G H xs ds) : LsOk K G H (qs ++ [q]) (l ++ [ds]) := by
  induction h with
  | nil => exact .cons hq hd .nil
  | cons a b _ ih => exact .cons a b ih
theorem LsOk.nt {K : PySem.W.Frag} {G : Rg} {H : Hp} {qs : List Addr} {l : List (List PyData)} (h : LsOk K G H qs l) : ∀ q ∈ qs, ∃ xs, H q = some (.lst xs) := by
  induction h with
  | nil => intro q hq; cases hq
  | cons a b _ ih =>
    intro q hq
    rcases List.mem_cons.mp hq with rfl | hq
    · exact ⟨_, a⟩
    · exact ih q hq
def keepAt (Γ : List Sl) (j : Nat) : Option PyData := match Γ[j]? with
  | some (.dat fr d) => if fr || flat d then some d else none
  | _ => none
theorem keepAt_ok {K : PySem.W.Frag} {G : Gh} {H : Hp} {σ : St} {Γ : List Sl} {j : Nat} {d : PyData} (S : Sta K G H σ Γ) (h : keepAt Γ j = some d) : ∃ v, σ[j]? = some (some v) ∧ Dn K (rg G true) H v d := by
  unfold keepAt at h
  split at h
  · rename_i fr d' hg
    obtain ⟨A, T⟩ := S
    obtain ⟨_, v, h1, h2⟩ := T.sl j _ hg
    split at h
    · rename_i hc
      cases h
      refine ⟨v, h1, ?_⟩
      cases fr with
      | true => exact h2
      | false => exact Dn.free h2 (by simpa using hc)
    · cases h
  · cases h
section
variable {X : Cx} {W : WX} {sc : Scope} {N : List Str} {x y : Str} {e : Expr} {pos lpos p1 p2 a1 a2 c1 c2 : Pos} {fk : DF}
theorem evp_cellR (C : Cf0 X W sc N) {Γ : List Sl} {i : Nat} {io : Bool} {c : Cl} (h : Γ[i]? = some (mkS io c)) (hN : N[i]? = some x) (hv : visB sc x = true)
    (hd : (x == ("__debug__" : Str)) = false := by decide +kernel) (hcd : (x == ("__classdict__" : Str)) = false := by decide +kernel) : EvP X W Γ (.Name x p1) (.s i) := evp_cell C h hN hv hd hcd
end
end PD
set_option Elab.async false
set_option linter.all false
set_option maxRecDepth 100000
set_option maxHeartbeats 4000000
set_option autoImplicit false
namespace PD
open PySem PySem.Spec L2 Srt SrtO
open PySem.W (alike AllAlike Sortable dataLe EachIs dataLt)
open PyProof.Rows hiding St
section
variable {X : Cx}
end
section
variable {X : Cx} {W : WX} {sc : Scope} {N : List Str} {a b c e : Expr} {pos p : Pos} {f g : DF} {k : DA}
end
section
variable {prog : Program} {w : World} {A : Around} {E : Value → Shared → Prop} {s : Shared} {β : Type} {vs : List Value} {bs : List β} {enc : β → PyData} {R : Value → β → Prop}
open PySem.W
end
section
variable {X : Cx} {W : WX} {sc : Scope} {N : List Str} {a e e2 : Expr} {p pos : Pos} {k : DA}
end
end PD
set_option Elab.async false
set_option linter.all false
set_option maxRecDepth 100000
set_option maxHeartbeats 4000000
set_option autoImplicit false
namespace PD
open PySem PySem.Spec L2
open PySem.W (alike dataLt AlikeAll minD)
open PyProof.Rows hiding St
section
variable {X : Cx} {W : WX} {sc : Scope} {N : List Str} {a b e e2 : Expr} {p pos : Pos} {k : DA} {f g : DF}
end
section
variable {X : Cx} {W : WX} {sc : Scope} {N : List Str} {x y : Str} {p p2 pos apos cpos : Pos}
end
def mulD (l : List (PyData × List PyData)) : List (PyData × PyData) := l.map fun z => (z.1, .list z.2)
theorem LsOk.dna {K : PySem.W.Frag} {G : Rg} {H : Hp} {qs : List Addr} {l : List (List PyData)} (h : LsOk K G H qs l) {G' : Rg} (g : RgLe G G') (k : ∀ q ∈ qs, ∀ o, H q = some o → G' q o) : DnA K G' H (qs.map V.ref) (l.map PyData.list) := by
  induction h with
  | nil => exact .nil
  | cons a b _ ih => exact .cons (.lst (.inl (k _ List.mem_cons_self _ a)) (b.mono g (TupLe.rf _))) (ih fun q hq => k q (List.mem_cons_of_mem _ hq))
section
variable {X : Cx} {W : WX} {sc : Scope} {N : List Str} {ss : List Stmt} {g : DS}
end
end PD
set_option Elab.async false
set_option linter.all false
set_option maxRecDepth 100000
set_option maxHeartbeats 4000000
set_option autoImplicit false
namespace PD
open PySem L2
section
variable {X : Cx} {W : WX} {sc : Scope} {N : List Str} {e : Expr} {pos p1 : Pos} {x : Str}
end
end PD
set_option Elab.async false
set_option linter.all false
set_option maxRecDepth 100000
set_option maxHeartbeats 4000000
set_option autoImplicit false
namespace PySem
section
variable {prog : Program} {w : World} {A : Around} {E : Value → Shared → Prop} {s : Shared} {d : Addr} {es : Array DictEntry} {ep : Nat}
end
end PySem
namespace PD
open PySem L2
section
variable {X : Cx} {W : WX} {sc : Scope} {N : List Str} {e : Expr} {pos p : Pos} {k : DA}
end
end PD
set_option Elab.async false
set_option linter.all false
set_option maxRecDepth 100000
set_option maxHeartbeats 4000000
set_option autoImplicit false
namespace PD
open PySem L2
section
variable {K : PySem.W.Frag} {G : Rg} {H : Hp} {fp : List Addr}
theorem ItsOk.append : ∀ {vs ws : List V} {nd ne : List Itm}, ItsOk K G H fp vs nd → ItsOk K G H fp ws ne → ItsOk K G H fp (vs ++ ws) (nd ++ ne)
  | _, _, _, _, .nil, b => b
  | _, _, _, _, .d h a, b => .d h (ItsOk.append a b)
  | _, _, _, _, .r h a, b => .r h (ItsOk.append a b)
theorem ItsOk.length : ∀ {vs : List V} {nd : List Itm}, ItsOk K G H fp vs nd → vs.length = nd.length
  | _, _, .nil => rfl
  | _, _, .d _ a => by simp [a.length]
  | _, _, .r _ a => by simp [a.length]
theorem ItsOk.erase : ∀ {vs : List V} {nd : List Itm} (i : Nat), ItsOk K G H fp vs nd → ItsOk K G H fp (vs.eraseIdx i) (nd.eraseIdx i)
  | _, _, _, .nil => .nil
  | _, _, 0, .d h a => a
  | _, _, 0, .r h a => a
  | _, _, i + 1, .d h a => .d h (ItsOk.erase i a)
  | _, _, i + 1, .r h a => .r h (ItsOk.erase i a)
end
section
variable {K : PySem.W.Frag} {G : Gh} {H : Hp} {σ : St} {Γ : List Sl} {A : Nat → List Addr} {i j k : Nat} {ns : List (List Itm)} {nd : List Itm} {vs : List V} {p : Addr} {ds : List PyData}
end
def unrL (f : Nat → Option PyData) : List Itm → Option (List PyData)
  | [] => some []
  | .d x :: l => (unrL f l).map (x :: ·)
  | .r k :: l => (f k).bind fun d => (unrL f l).map (d :: ·)
def unr (ns : List (List Itm)) : Nat → Nat → Option PyData
  | 0 => fun _ => none
  | n + 1 => fun k => (ns[k]?).bind fun nd => (unrL (unr ns n) nd).map PyData.list
abbrev DR := List Sl → R (Nat × List Sl)
section
variable {X : Cx} {W : WX} {sc : Scope} {N : List Str} {e e2 : Expr} {es : List Expr} {apos cpos pos p p2 : Pos} {k : DA} {f : DF} {g : DS} {ss : List Stmt} {x y : Str} {i j : Nat} {r : DR}
def rdR (X : Cx) (W : WX) (Γ : List Sl) (j : Nat) (m : R (Nat × List Sl)) : TE := fun σ H Q => ∃ G, Sta X.K G H σ Γ ∧ Pst X W G H σ m fun r G' H' => ∀ A p ns, StaA X.K G' H' σ r.2 A → r.2[j]? = some (Sl.pool ns) → (A j)[r.1]? = some p → Q (.ref p) H'
def CR (X : Cx) (W : WX) (j : Nat) (e : Expr) (r : DR) : Prop := ∀ Γ, PE X e (rdR X W Γ j (r Γ))
end
end PD
set_option Elab.async false
set_option linter.all false
set_option maxRecDepth 100000
set_option maxHeartbeats 4000000
set_option autoImplicit false
namespace PD
open PySem L2
section
variable {X : Cx} {W : WX} {sc : Scope} {N : List Str} {e : Expr} {es : List Expr} {apos cpos pos p p2 : Pos} {k : DA} {f : DF}
end
theorem TresOk.snoc {K : PySem.W.Frag} {G : Rg} {H : Hp} {v : V} {x : PyData} (hx : Dn K G H v x) : ∀ {vs : List V} {fp : List Addr} {ts : List Tre}, TresOk K G H vs fp ts → TresOk K G H (vs ++ [v]) fp (ts ++ [.d x])
  | _, _, _, .nil => .cons (f1 := []) (f2 := []) (.d hx) .nil (by simp)
  | _, _, _, .cons h a n => .cons h (TresOk.snoc hx a) n
theorem TresOk.setAt {K : PySem.W.Frag} {G : Rg} {H : Hp} : ∀ {ws : List V} {fp : List Addr} {ts : List Tre} {c : Nat} {us : List Tre}, TresOk K G H ws fp ts → ts[c]? = some (.lst us) → ∃ p vs fq, ws[c]? = some (V.ref p) ∧ p ∈ fp ∧ H p = some (.lst vs) ∧ p ∉ fq ∧ (∀ a ∈ fq, a ∈ fp) ∧ TresOk K G H vs fq us ∧
    ∀ H' vs' us', (∀ a, a ≠ p → H' a = H a) → H' p = some (.lst vs') → TresOk K G H' vs' fq us' → TupLe H H' → TresOk K G H' ws fp (ts.set c (.lst us'))
  | _, _, _, c, us, .nil, e => by simp at e
  | _, _, _, 0, us, .cons (f1 := f1) (f2 := f2) h a n, e => by
    simp at e
    subst e
    cases h with
    | lst h1 h2 h3 =>
      rename_i p vs fq
      refine ⟨p, vs, fq, rfl, by simp, h1, h3, fun b hb => by simp [hb], h2, fun H' vs' us' k1 k2 k3 t => ?_⟩
      refine .cons (.lst k2 k3 h3) (TresOk.mono (fun _ _ z => z) t a fun b hb => k1 b fun z => ?_) n
      exact n p (by simp) (z ▸ hb)
  | _, _, _, c + 1, us, .cons (f1 := f1) (f2 := f2) h a n, e => by
    obtain ⟨p, vs, fq, h1, h2, h3, h4, h5, h6, h7⟩ := TresOk.setAt (c := c) (us := us) a (by simpa using e)
    refine ⟨p, vs, fq, by simpa using h1, by simp [h2], h3, h4, fun b hb => by simp [h5 b hb], h6, fun H' vs' us' k1 k2 k3 t => ?_⟩
    refine .cons (TreOk.mono (fun _ _ z => z) t h fun b hb => k1 b fun z => ?_) (h7 H' vs' us' k1 k2 k3 t) n
    exact n b hb (by rw [z]; exact h2)
theorem TresOk.length {K : PySem.W.Frag} {G : Rg} {H : Hp} : ∀ {vs : List V} {fp : List Addr} {ts : List Tre}, TresOk K G H vs fp ts → vs.length = ts.length
  | _, _, _, .nil => rfl
  | _, _, _, .cons _ a _ => by simp [TresOk.length a]
section
variable {X : Cx} {W : WX} {sc : Scope} {N : List Str} {e : Expr} {es : List Expr} {apos cpos pos ipos p p2 : Pos} {k : DA} {f : DF} {x : Str}
theorem at_natV {α : Type} {xs : List α} {c : Nat} {x : α} (h : xs[c]? = some x) : atI xs (c : Int) = some x := by
  have hl := (List.getElem?_eq_some_iff.mp h).1
  unfold atI ixN
  rw [if_pos (by omega), if_pos (by omega)]
  simpa using h
end
end PD
set_option Elab.async false
set_option linter.all false
set_option maxRecDepth 100000
set_option maxHeartbeats 4000000
set_option autoImplicit false
namespace PD
open PySem L2
section
variable {X : Cx} {W : WX} {sc : Scope} {N : List Str} {a : Expr} {pos p : Pos} {f : DF}
end
end PD
set_option Elab.async false
set_option linter.all false
set_option maxRecDepth 100000
set_option maxHeartbeats 4000000
set_option autoImplicit false
namespace PD
open PySem L2 RT
section
variable {X : Cx} {W : WX} {sc : Scope} {N : List Str} {e tg : Expr} {pos p : Pos} {f : DF}
end
end PD
set_option Elab.async false
set_option linter.all false
set_option maxRecDepth 100000
set_option maxHeartbeats 4000000
set_option autoImplicit false
namespace HT
open PySem PySem.Spec PyProof.Rows
section
variable {prog : Program} {w : World} {A : Around} {E : Value → Shared → Prop} {s : Shared}
end
end HT
namespace PD
open PySem PySem.Spec L2
open PyProof.Rows hiding St
section
variable {X : Cx} {W : WX} {sc : Scope} {N : List Str} {a : Expr} {p1 p2 p3 pos : Pos} {f : DF}
end
end PD
set_option Elab.async false
set_option linter.all false
set_option maxRecDepth 100000
set_option maxHeartbeats 4000000
set_option autoImplicit false
namespace PD
open PySem PySem.Spec L2
open PyProof.Rows hiding St
structure InsC (K : PySem.W.Frag) (c : Str) (fs : List Str) : Prop where
  cls : Cls K (He.ga K c)
  no : ∀ f ∈ fs, NoAttr K (He.ga K c) f
  mks : PySem.W.makesIn K (He.ga K c) = true
  kp : PySem.W.keepIn K (.ref (He.ga K c)) = true
def methB (K : PySem.W.Frag) (c m : Str) : Bool := decide (PySem.W.findIn K (.ref (He.ga K c)) m = some (some (.ref (He.fAd K (c, some m))))) && (PySem.W.isFn K (.ref (He.fAd K (c, some m))) && PySem.W.keepIn K (.ref (He.fAd K (c, some m))))
theorem methB_ok {K : PySem.W.Frag} {c m : Str} (h : methB K c m = true) : Meth K (He.ga K c) m (He.fAd K (c, some m)) := by
  unfold methB at h
  simp only [Bool.and_eq_true, decide_eq_true_eq] at h
  exact ⟨h.1, h.2.1, h.2.2⟩
section
variable {X : Cx} {W : WX} {sc : Scope} {N : List Str} {a b e o : Expr} {es : List Expr} {apos cpos pos p p2 : Pos} {k : DA} {f g : DF} {s : Stmt} {cl : List (Str × List Str)}
end
end PD
set_option Elab.async false
set_option linter.all false
set_option maxRecDepth 100000
set_option maxHeartbeats 4000000
set_option autoImplicit false
namespace PD
open PySem PySem.Spec L2
open PyProof.Rows hiding St
section
variable {X : Cx} {W : WX} {sc : Scope} {N : List Str} {a b e o : Expr} {es : List Expr} {apos cpos pos p p2 pos' tpos : Pos} {f g fe fi : DF} {s : Stmt} {cl : List (Str × List Str)} {x n : Str}
end
end PD
set_option Elab.async false
set_option linter.all false
set_option maxRecDepth 100000
set_option maxHeartbeats 4000000
set_option autoImplicit false
namespace PD
open PySem PySem.Spec L2
open PyProof.Rows hiding St
abbrev DK := List Sl → Option (Bool × PyData)
section
variable {X : Cx} {W : WX} {sc : Scope} {N : List Str} {a b e o : Expr} {es : List Expr} {apos cpos pos p p2 pos' tpos : Pos} {f g fe fi : DF} {s : Stmt} {cl : List (Str × List Str)} {x n : Str} {r : DK}
end
end PD
set_option Elab.async false
set_option linter.all false
set_option maxRecDepth 100000
set_option maxHeartbeats 4000000
set_option autoImplicit false
namespace PD
open PySem PySem.Spec L2
open PyProof.Rows hiding St
section
variable {X : Cx} {CX : CXT} {k : Nat} {f C : Addr} {fd : FuncData} {ps : List Str} {sp : Sp} {dvs : List V} {ds : List Value} {E : St → XK} {x m : Str} {p pos apos : Pos} {e o : Expr} {es : List Expr} {ta : TE} {t : TA}
end
def CleeM (X : Cx) (c mn : Str) (dvs : List V) (sp : Sp) : Prop :=
  ∃ (k : Nat) (f : Addr) (fd : FuncData) (ps : List Str) (ds : List Value), FnOk X.prog X.w X.K X.mg X.base (L2.CX X.prog X.w) k f fd ps sp ∧ Room k X.A ∧ Cls X.K (He.ga X.K c) ∧ Meth X.K (He.ga X.K c) mn f ∧ Binds X.K fd ps ds ∧ Vals dvs ds
def CleeI (X : Cx) (c : Str) (dvs : List V) (sp : Sp) : Prop :=
  ∃ (k : Nat) (f : Addr) (fd : FuncData) (ps : List Str) (ds : List Value), FnOk X.prog X.w X.K X.mg X.base (L2.CX X.prog X.w) k f fd ps sp ∧ Room (k + 1) X.A ∧ X.mg c = some (.ref (He.ga X.K c)) ∧ Mk X.K (He.ga X.K c) f ∧ Binds X.K fd ps ds ∧ Vals dvs ds
def GvM (P : Program) (w : World) (K : PySem.W.Frag) (mg : Str → Option Value) (base : Heap) (k : Nat) (c mn : Str) (dvs : List V) (sp : Sp) : Prop :=
  ∃ (f : Addr) (fd : FuncData) (ps : List Str) (ds : List Value), FnOk P w K mg base (L2.CX P w) k f fd ps sp ∧ Cls K (He.ga K c) ∧ Meth K (He.ga K c) mn f ∧ Binds K fd ps ds ∧ Vals dvs ds
def GvI (P : Program) (w : World) (K : PySem.W.Frag) (mg : Str → Option Value) (base : Heap) (k : Nat) (c : Str) (dvs : List V) (sp : Sp) : Prop :=
  ∃ (f : Addr) (fd : FuncData) (ps : List Str) (ds : List Value), FnOk P w K mg base (L2.CX P w) k f fd ps sp ∧ mg c = some (.ref (He.ga K c)) ∧ Mk K (He.ga K c) f ∧ Binds K fd ps ds ∧ Vals dvs ds
section
variable {P : Program} {w : World} {K : PySem.W.Frag} {mg : Str → Option Value} {base : Heap} {k k' : Nat} {c mn : Str} {dvs : List V} {sp : Sp} {X : Cx} {W : WX} {scope : Scope} {N fs : List Str} {fd : FuncData} {ps : List Str} {ds : List Value} {m : List Ar → R (Rs × List Sl)}
theorem GvM.of (I : InsC K c fs) (hm : methB K c mn = true) (ok : FnOk P w K mg base (L2.CX P w) k (He.fAd K (c, some mn)) fd ps sp) (b : Binds K fd ps ds) (hv : Vals dvs ds) : GvM P w K mg base k c mn dvs sp :=
  ⟨_, fd, ps, ds, ok, I.cls, methB_ok hm, b, hv⟩
theorem GvI.of (I : InsC K c fs) (hm : methB K c "__init__" = true) (hg : mg c = some (.ref (He.ga K c))) (ok : FnOk P w K mg base (L2.CX P w) k (He.fAd K (c, some "__init__")) fd ps sp) (b : Binds K fd ps ds) (hv : Vals dvs ds) : GvI P w K mg base k c dvs sp :=
  ⟨_, fd, ps, ds, ok, hg, ⟨I.mks, (methB_ok hm).at_, (methB_ok hm).fn, I.kp⟩, b, hv⟩
theorem GvM.u (g : GvM P w K mg base k c mn dvs (spU K mg m)) (h : Here X W P w K mg base scope N k') (hk : k ≤ k') : CleeM X c mn dvs (spU X.K X.mg m) := by
  obtain ⟨f, fd, ps, ds, h1, h2, h3, h4, h5⟩ := g
  have e1 := h.prog
  have e2 := h.w
  have e3 := h.K
  have e4 := h.mg
  have e5 := h.base
  subst e1 e2 e3 e4 e5
  exact ⟨k, f, fd, ps, ds, h1, h.room.mono hk, h2, h3, h4, h5⟩
theorem GvI.u (g : GvI P w K mg base k c dvs (spU K mg m)) (h : Here X W P w K mg base scope N k') (hk : k + 1 ≤ k') : CleeI X c dvs (spU X.K X.mg m) := by
  obtain ⟨f, fd, ps, ds, h1, h2, h3, h4, h5⟩ := g
  have e1 := h.prog
  have e2 := h.w
  have e3 := h.K
  have e4 := h.mg
  have e5 := h.base
  subst e1 e2 e3 e4 e5
  exact ⟨k, f, fd, ps, ds, h1, h.room.mono hk, h2, h3, h4, h5⟩
theorem CleeM.tr (h : CleeM X c mn dvs sp) {pn : List (Addr × Obj)} {xe : Value → Shared → Prop} : CleeM (X.tr pn xe) c mn dvs sp := h
theorem CleeI.tr (h : CleeI X c dvs sp) {pn : List (Addr × Obj)} {xe : Value → Shared → Prop} : CleeI (X.tr pn xe) c dvs sp := h
theorem CleeM.blk (h : CleeM X c mn dvs sp) {s : Shared} {H : Hp} {scope : Scope} {ce : Env} {fp : List Addr} : CleeM (X.blk s H scope ce fp) c mn dvs sp := h
theorem CleeI.blk (h : CleeI X c dvs sp) {s : Shared} {H : Hp} {scope : Scope} {ce : Env} {fp : List Addr} : CleeI (X.blk s H scope ce fp) c dvs sp := h
end
section
variable {X : Cx} {W : WX} {sc : Scope} {N : List Str} {e o : Expr} {es : List Expr} {apos p pos : Pos} {x c n : Str} {fe : DF} {k : DA} {dvs : List V} {dds : List PyData} {m : List Ar → R (Rs × List Sl)} {ms : List Bool}
end
end PD
set_option Elab.async false
set_option linter.all false
set_option maxRecDepth 100000
set_option maxHeartbeats 4000000
set_option autoImplicit false
namespace PD
open PySem PySem.Spec L2 Srt SrtO
open PySem.W (alike AllAlike Sortable dataLe EachIs)
open PyProof.Rows hiding St
section
variable {P : Program} {w : World} {A : Around} {E : Value → Shared → Prop} {s : Shared}
end
section
variable {X : Cx} {W : WX} {sc : Scope} {N : List Str} {a e : Expr} {p pos : Pos} {f : DF}
end
end PD
set_option Elab.async false
set_option linter.all false
set_option maxRecDepth 100000
set_option maxHeartbeats 4000000
set_option autoImplicit false
namespace PD
open PySem L2
section
variable {X : Cx} {W : WX} {sc : Scope} {N : List Str} {e : Expr} {pos : Pos} {f : DX}
end
end PD
set_option Elab.async false
set_option linter.all false
set_option maxRecDepth 100000
set_option maxHeartbeats 4000000
set_option autoImplicit false
namespace SrtK
open PySem PySem.W PySem.Calls PyProof.Rows
section
variable {prog : Program} {w : World} {A : Around} {E : Value → Shared → Prop} {a : Addr} {vs : List Value} {kz : List Int} {f : Value} {P : PySem.Fin → Shared → Prop}
end
end SrtK
namespace PD
open PySem L2
section
open PySem.W PySem.Calls PyProof.Rows
variable {X : Cx} {pins : List (Addr × Obj)} {σ : L2.St} {H : Hp} {s : Shared} {Q : VK}
end
end PD
namespace PD
open PySem L2
def CleeS (X : Cx) (x : Str) (sp : Sp) : Prop :=
  ∃ (k : Nat) (f : Addr) (fd : FuncData) (ps : List Str), FnOk X.prog X.w X.K X.mg X.base (L2.CX X.prog X.w) k f fd ps sp ∧ Room (k + 2) X.A ∧ X.mg x = some (.ref f) ∧ Binds X.K fd ps []
section
variable {X : Cx} {W : WX} {sc : Scope} {N : List Str} {e : Expr} {p py pos kpos : Pos} {f : DF} {y : Str} {m : List Ar → R (Rs × List Sl)}
end
theorem Gv.key {P : Program} {w : World} {K : PySem.W.Frag} {mg : Str → Option Value} {base : Heap} {k k' : Nat} {x : Str} {m : List Ar → R (Rs × List Sl)} {scope : Scope} {X : Cx} {W : WX} {N : List Str} (g : Gv P w K mg base k x [] (spU K mg m)) (h : Here X W P w K mg base scope N k') (hk : k + 2 ≤ k') : CleeS X x (spU X.K X.mg m) := by
  obtain ⟨f, fd, ps, ds, g1, g2, g3, g4, g5⟩ := g
  cases g5
  rw [h.K, h.mg]
  refine ⟨k, f, fd, ps, ?_, h.room.mono hk, ?_, ?_⟩
  · rw [h.prog, h.w, h.K, h.mg, h.base]; exact g1
  · rw [h.mg]; exact g2
  · rw [h.K]; exact g4
end PD
set_option Elab.async false
set_option linter.all false
set_option maxRecDepth 100000
set_option maxHeartbeats 4000000
set_option autoImplicit false
namespace PD
open PySem L2
section
variable {X : Cx} {W : WX} {sc : Scope} {N : List Str} {e e1 : Expr} {p pos : Pos} {f : DF} {r : DK} {cl : List (Str × List Str)}
end
end PD
set_option Elab.async false
set_option linter.all false
set_option maxRecDepth 100000
set_option maxHeartbeats 4000000
set_option autoImplicit false
namespace PD
open PySem PySem.Spec L2
open PyProof.Rows hiding St
theorem TresOk.split {K : PySem.W.Frag} {G : Rg} {H : Hp} {t : Tre} : ∀ (ts : List Tre) {vs : List V} {fp : List Addr}, TresOk K G H vs fp (ts ++ [t]) → ∃ vs1 v f1 f2, vs = vs1 ++ [v] ∧ TresOk K G H vs1 f1 ts ∧ TreOk K G H v f2 t ∧ (∀ a, a ∈ fp ↔ a ∈ f1 ∨ a ∈ f2) ∧ ∀ p ∈ f1, p ∉ f2
  | [], vs, fp, h => by
    have h : TresOk K G H vs fp [t] := h
    cases h with
    | @cons v vs2 f1 f2 _ _ h1 a n =>
      cases a
      exact ⟨[], v, [], f1, rfl, .nil, h1, fun a => by simp, fun p hp => by cases hp⟩
  | t1 :: ts, vs, fp, h => by
    have h : TresOk K G H vs fp (t1 :: (ts ++ [t])) := h
    cases h with
    | @cons v vs2 f1 f2 _ _ h1 a n =>
      obtain ⟨vs1, w, g1, g2, rfl, b1, b2, b3, b4⟩ := TresOk.split ts a
      refine ⟨v :: vs1, w, f1 ++ g1, g2, rfl, .cons h1 b1 (fun p hp z => n p hp ((b3 p).mpr (.inl z))), b2, fun a => ?_, fun p hp => ?_⟩
      · rw [List.mem_append, List.mem_append, b3, or_assoc]
      · rcases List.mem_append.mp hp with z | z
        · exact fun q => n p z ((b3 p).mpr (.inr q))
        · exact b4 p z
section
variable {X : Cx} {W : WX} {sc : Scope} {N : List Str} {e tg : Expr} {f : DX} {apos cpos : Pos}
end
end PD
set_option Elab.async false
set_option linter.all false
set_option maxRecDepth 100000
set_option maxHeartbeats 4000000
set_option autoImplicit false
namespace PD
open PySem PySem.Spec L2 Srt SrtO
open PySem.W
open PyProof.Rows hiding St
section
variable {prog : Program} {w : World} {A : Around} {s : Shared}
variable {β : Type} {vs : List Value} {bs : List β} {enc : β → PyData} {R : Value → β → Prop} {E : Value → Shared → Prop}
end
section
variable {X : Cx} {W : WX} {sc : Scope} {N : List Str} {a e : Expr} {p pos : Pos} {k : DA}
end
end PD
set_option Elab.async false
set_option linter.all false
set_option maxRecDepth 100000
set_option maxHeartbeats 4000000
set_option autoImplicit false
namespace PD
open PySem PySem.Spec L2
open PyProof.Rows hiding St
section
variable {X : Cx} {W : WX} {a b : Expr} {pos : Pos} {f : DN} {g : DF}
end
end PD
set_option Elab.async false
set_option linter.all false
set_option maxRecDepth 100000
set_option maxHeartbeats 4000000
set_option autoImplicit false
namespace PD
open PySem L2
section
variable {X : Cx} {W : WX} {sc : Scope} {N : List Str} {a b c e : Expr} {es : List Expr} {pos p : Pos} {f : DF} {x : Str} {dvs : List V} {dds : List PyData} {m : List Ar → R (Rs × List Sl)} {kws : List Keyword} {ks : List Str} {n : Nat} {pm : List Nat} {k kk : DA}
end
end PD
set_option Elab.async false
set_option linter.all false
set_option maxRecDepth 100000
set_option maxHeartbeats 4000000
set_option autoImplicit false
namespace PD
open PySem PySem.Spec L2
open PyProof.Rows hiding St
section
variable {X : Cx} {pins : List (Addr × Obj)} {σ : St} {H : Hp} {s : Shared} {a b : Addr} {r : Value} {d : V} {k : NestedKey} {A : Around} {E : Value → Shared → Prop} {rs : List (NestedKey × Addr × V)}
theorem nd_at (I : Inv X pins σ H s) (e : Rd H a (NdO a rs)) : s.TypeIs (.ref a) "dict" ∧ (∀ b, Value.ref a = .ref b → ∃ ob, s.heap.get? b = some ob ∧ ob.dict = none) ∧ (a == sysModules) = false := by
  obtain ⟨n1, n2, n3, w', xs, o, es, ep, pr, ho, hx, hdt, he, hn⟩ := nd_of_ok (e.ok I.hok)
  refine ⟨⟨o, ho, hx.1⟩, fun b q => ?_, n2⟩
  cases q
  exact ⟨o, ho, hx.2.1⟩
theorem d_setdN {Q : Value → Shared → Prop} (hu : A.units + 9 < cLine) (I : Inv X pins σ H s) (e : H a = some (NdO a rs)) (hk : NdK X s.heap rs) (hb : (nestedKind X.prog X.w).is s.heap k b) (ht : noT k = true) (rd : RelV d r) (hl : rs.length < sizeLine)
    (h1 : ∀ v, ndGet rs k = some v → ∀ (w' : Value) (s' : Shared), Inv X pins σ H s' → RelV v w' → Q w' s') (h2 : ndGet rs k = none → ∀ (w' : Value) (s' : Shared), Inv X pins σ (upd H a (NdO a (ndPut rs k b d))) s' → RelV d w' → Q w' s') :
    wpAny (PySem.model X.prog X.w) A (call (.builtin "dict.setdefault") [.ref a, .ref b, r]) Q E s := by
  have n := nd_of_ok ((Rd.of e).ok I.hok)
  obtain ⟨xs, rel, dd⟩ := nd_rd n hk
  have hz : xs.length ≤ sizeLine := by rw [← Paired.length rel]; omega
  refine call_setdefault_heap (hsz := hz) (show A.units + 1 + 8 < cLine by omega) hb n.2.1 dd (fun p hp => ?_) fun hn h' dd' hs => ?_
  · rcases nd_get (k := k) rel with ⟨_, g2⟩ | ⟨v', p', g1, g2, g3⟩
    · rw [hp] at g2; cases g2
    · rw [hp] at g2; cases g2
      exact h1 v' g1 _ _ (I.tok _) g3
  · rcases nd_get (k := k) rel with ⟨g1, _⟩ | ⟨v', p', g1, g2, g3⟩
    · have hl2 := ndPut_len rs k b d
      have hq : ∃ q, h'.get? a = some q := let ⟨q, _, _, hq, _⟩ := dd'; ⟨q, hq⟩
      exact h2 g1 _ _ (d_write I (by rw [e]; exact True.intro) hs hq (nd_obj (nd_wr (by omega) n.2.1 (ndPut_noT n.2.2.1 ht) (nd_put rd rel) dd'))) rd
    · rw [hn] at g2; cases g2
end
def tSetdN (K : PySem.W.Frag) (td ty tx : TE) : TE := fun σ H Q => td σ H fun x H1 => ∃ a, x = .ref a ∧ (∃ rs, H1 a = some (NdO a rs)) ∧ ty σ H1 fun y H2 => tx σ H2 fun z H3 => ∃ (rs : List (NestedKey × Addr × V)) (kk : NestedKey) (b : Addr) (G : Rg) (k : PyData), H3 a = some (NdO a rs) ∧ y = .ref b ∧ Dn K G H3 (.ref b) k ∧ nkD k = some kk ∧ kk.depth ≤ 8 ∧
  (∀ r ∈ rs, ∃ G' k', Dn K G' H3 (.ref r.2.1) k' ∧ nkD k' = some r.1 ∧ r.1.depth ≤ 8) ∧ rs.length < sizeLine ∧
  (∀ v, ndGet rs kk = some v → Q v H3) ∧ (ndGet rs kk = none → Q z (upd H3 a (NdO a (ndPut rs kk b z))))
theorem pe_setdN {X : Cx} {o e f : Expr} {td ty tx : TE} {apos cpos : Pos} (hu : X.A.units + 9 < cLine) (ho : PE X o td) (he : PE X e ty) (hf : PE X f tx) (m : M2 X o "setdefault" apos e f cpos) : PE X (.Call (.Attribute o "setdefault" apos) [e, f] [] cpos) (tSetdN X.K td ty tx) := by
  refine ⟨fun pins s σ H Q I h => ?_⟩
  refine wpAny_Call_method m.base m.few m.line PySem.F.plainAttrs_dict PySem.F.slot_dict_setdefault PySem.F.type_dict_setdefault (thn (ho.run pins s σ H _ I h) fun u s1 ⟨x, H1, I1, rx, a, ex, ⟨rs0, d⟩, q1⟩ => ?_)
  subst ex
  obtain rfl : u = Value.ref a := rx
  obtain ⟨t1, t2, _⟩ := nd_at I1 (Rd.of d)
  refine ⟨t1, t2, ?_⟩
  rw [m.trees]
  refine Calls.callWith_builtin rfl (Calls.evalArgs_plain (Calls.spliced_cons (thn (he.run pins s1 σ H1 _ I1 q1) fun iv s2 ⟨y, H2, I2, ry, q2⟩ =>
    Calls.spliced_cons (thn (hf.run pins s2 σ H2 _ I2 q2) fun fv s3 ⟨z, H3, I3, rz, rs, kk, b, G, k, ea, ey, eb, k1, k2, ks, hl, q3, q4⟩ => Calls.spliced_nil ?_))))
  subst ey
  obtain rfl : iv = Value.ref b := ry
  have hks : NdK X s3.heap rs := fun r hr => by
    obtain ⟨G', k', g1, g2, g3⟩ := ks r hr
    exact ⟨dn_nested I3.hok g1 g2 rfl, g3⟩
  exact d_setdN hu I3 ea hks (nget_key I3 eb k1 k2) (nkD_noT _ _ k1) rz hl (fun v hv w' s4 I4 rw' => ⟨v, _, I4, rw', q3 v hv⟩) fun hn w' s4 I4 rw' => ⟨z, _, I4, rw', q4 hn⟩
inductive MnRel (K : PySem.W.Frag) (G : Rg) (H : Hp) : List (NestedKey × Addr × V) → List Addr → List (PyData × List PyData) → Prop
  | nil : MnRel K G H [] [] []
  | cons {r : NestedKey × Addr × V} {rs : List (NestedKey × Addr × V)} {q : Addr} {qs : List Addr} {k : PyData} {xs : List V} {ds : List PyData} {l : List (PyData × List PyData)} :
      nkD k = some r.1 → r.1.depth ≤ 8 → Dn K G H (.ref r.2.1) k → r.2.2 = .ref q → H q = some (.lst xs) → DnA K G H xs ds → MnRel K G H rs qs l → MnRel K G H (r :: rs) (q :: qs) ((k, ds) :: l)
section
variable {K : PySem.W.Frag} {G G' : Rg} {H H' : Hp} {rs : List (NestedKey × Addr × V)} {qs : List Addr} {l : List (PyData × List PyData)}
theorem MnRel.mono (g : RgLe G G') (t : TupLe H H') (h : MnRel K G H rs qs l) : (∀ q ∈ qs, H' q = H q) → MnRel K G' H' rs qs l := by
  induction h with
  | nil => exact fun _ => .nil
  | cons h1 h2 h3 h4 h5 h6 _ ih => exact fun k => .cons h1 h2 (h3.mono g t) h4 (by rw [k _ List.mem_cons_self]; exact h5) (h6.mono g t) (ih fun q hq => k q (List.mem_cons_of_mem _ hq))
theorem MnRel.nt (h : MnRel K G H rs qs l) : ∀ q ∈ qs, ∃ xs, H q = some (.lst xs) := by
  induction h with
  | nil => intro q hq; cases hq
  | cons h1 h2 h3 h4 h5 h6 _ ih =>
    intro q hq
    rcases List.mem_cons.mp hq with rfl | hq
    · exact ⟨_, h5⟩
    · exact ih q hq
theorem MnRel.len (h : MnRel K G H rs qs l) : rs.length = l.length := by
  induction h with
  | nil => rfl
  | cons _ _ _ _ _ _ _ ih => rw [List.length_cons, List.length_cons, ih]
theorem MnRel.ks (h : MnRel K G H rs qs l) : ∀ r ∈ rs, ∃ G' k', Dn K G' H (.ref r.2.1) k' ∧ nkD k' = some r.1 ∧ r.1.depth ≤ 8 := by
  induction h with
  | nil => intro r hr; cases hr
  | cons h1 h2 h3 _ _ _ _ ih =>
    intro r hr
    rcases List.mem_cons.mp hr with rfl | hr
    · exact ⟨_, _, h3, h1, h2⟩
    · exact ih r hr
end
theorem encK_inj {xs ys : List PyData} (h : encK xs = encK ys) : xs = ys := by
  have h : (xs.flatMap fun d => [d, PyData.none]) = ys.flatMap fun d => [d, .none] := (List.cons.inj h).2
  induction xs generalizing ys with
  | nil =>
    cases ys with
    | nil => rfl
    | cons y ys => cases h
  | cons x xs ih =>
    cases ys with
    | nil => cases h
    | cons y ys =>
      simp only [List.flatMap_cons, List.cons_append, List.nil_append] at h
      have e1 := List.cons.inj h
      have e2 := List.cons.inj e1.2
      rw [e1.1, ih (congrArg (PyData.none :: ·) e2.2) e2.2]
theorem mn_of {K : PySem.W.Frag} {G : Rg} {H : Hp} : ∀ {l : List (PyData × List PyData)} {rs : List (NestedKey × Addr × V)} {fp : List Addr}, (l.map (·.1)).map nkD = rs.map (fun r => some r.1) → (∀ r ∈ rs, r.1.depth ≤ 8) →
    TresOk K G H (rs.flatMap fun r => [r.2.2, .ref r.2.1]) fp (l.flatMap fun z => [Tre.lst (z.2.map .d), .d z.1]) → fp.Nodup ∧ MnRel K G H rs fp l
  | [], [], _, _, _, .nil => ⟨List.nodup_nil, .nil⟩
  | [], _ :: _, _, h, _, _ => by cases h
  | _ :: _, [], _, h, _, _ => by cases h
  | z :: l, r :: rs, fp, h1, h2, t => by
    have e1 := List.cons.inj h1
    simp only [List.flatMap_cons, List.cons_append, List.nil_append] at t
    generalize hfp : fp = fp0 at t
    cases t with
    | @cons _ _ f1 f2 _ _ t1 t2 n1 =>
      cases t2 with
      | @cons _ _ g1 g2 _ _ u1 u2 n2 =>
        obtain ⟨i1, i2⟩ := mn_of (l := l) (rs := rs) (fp := g2) e1.2 (fun x hx => h2 x (List.mem_cons_of_mem _ hx)) u2
        generalize hv : r.2.2 = v at t1
        cases t1 with
        | @lst q vs fq ts b1 b2 b3 =>
          obtain ⟨rfl, b4⟩ := leaves_inv b2
          cases u1 with
          | d u1 =>
            subst hfp
            refine ⟨?_, ?_⟩
            · show (q :: ([] ++ g2)).Nodup
              exact List.nodup_cons.mpr ⟨n1 q (by simp), i1⟩
            · obtain ⟨zk, zd⟩ := z
              exact .cons e1.1 (h2 r List.mem_cons_self) u1 hv b1 b4 i2
theorem mn_to {K : PySem.W.Frag} {G : Rg} {H : Hp} {rs : List (NestedKey × Addr × V)} {qs : List Addr} {l : List (PyData × List PyData)} (h : MnRel K G H rs qs l) : qs.Nodup → (l.map (·.1)).map nkD = rs.map (fun r => some r.1) ∧ (∀ r ∈ rs, r.1.depth ≤ 8) ∧
    TresOk K G H (rs.flatMap fun r => [r.2.2, .ref r.2.1]) qs (l.flatMap fun z => [Tre.lst (z.2.map .d), .d z.1]) := by
  induction h with
  | nil => exact fun _ => ⟨rfl, (fun _ h => nomatch h), .nil⟩
  | @cons r rs q qs k xs ds l h1 h2 h3 h4 h5 h6 _ ih =>
    intro nd
    obtain ⟨n1, n2⟩ := List.nodup_cons.mp nd
    obtain ⟨i1, i2, i3⟩ := ih n2
    refine ⟨by rw [List.map_cons, List.map_cons, List.map_cons, i1, h1], fun x hx => ?_, ?_⟩
    · rcases List.mem_cons.mp hx with rfl | hx
      · exact h2
      · exact i2 x hx
    · simp only [List.flatMap_cons, List.cons_append, List.nil_append]
      rw [h4]
      exact TresOk.cons (f1 := [q]) (f2 := [] ++ qs) (.lst h5 (leaves_mk h6) (by simp)) (TresOk.cons (f1 := []) (f2 := qs) (.d h3) i3 (fun p hp => absurd hp (by simp))) (fun p hp => by
        have : p = q := by simpa using hp
        rw [this]; simpa using n1)
theorem mulN_inv {K : PySem.W.Frag} {G : Rg} {H : Hp} {v : V} {fp : List Addr} {l : List (PyData × List PyData)} (h : Cl.ok K G H v fp (.mul .n l)) :
    ∃ p rs qs, v = .ref p ∧ fp = p :: qs ∧ (p :: qs).Nodup ∧ H p = some (NdO p rs) ∧ MnRel K G H rs qs l := by
  obtain ⟨h, _⟩ := h
  have h : TreOk K G H v fp (.dic .n (encK (l.map (·.1))) (.d .none :: l.flatMap fun z => [.lst (z.2.map .d), .d z.1])) := h
  cases h with
  | @dic p o t ks vs fq ts h1 h2 h3 h4 =>
    obtain ⟨rs, kds, rfl, e1, e2, e3, rfl⟩ := h2
    have e3 := encK_inj e3
    subst e3
    generalize hq : fq = fq0 at h3
    unfold encV at h3
    cases h3 with
    | @cons _ _ f1 f2 _ _ t1 t2 n1 =>
      cases t1 with
      | d _ =>
        obtain ⟨i1, i2⟩ := mn_of e1 e2 t2
        subst hq
        exact ⟨p, rs, _, rfl, rfl, List.nodup_cons.mpr ⟨h4, i1⟩, h1, i2⟩
theorem mulN_mk {K : PySem.W.Frag} {G : Rg} {H : Hp} {p : Addr} {rs : List (NestedKey × Addr × V)} {qs : List Addr} {l : List (PyData × List PyData)} (nd : (p :: qs).Nodup) (hp : H p = some (NdO p rs)) (h : MnRel K G H rs qs l) : Cl.ok K G H (.ref p) (p :: qs) (.mul .n l) := by
  obtain ⟨n1, n2⟩ := List.nodup_cons.mp nd
  obtain ⟨e1, e2, e3⟩ := mn_to h n2
  refine ⟨?_, p, rfl, .inl (by simp)⟩
  show TreOk K G H (.ref p) (p :: qs) (.dic .n (encK (l.map (·.1))) (.d .none :: l.flatMap fun z => [.lst (z.2.map .d), .d z.1]))
  exact .dic hp ⟨rs, _, rfl, e1, e2, rfl, rfl⟩ (TresOk.cons (f1 := []) (f2 := qs) (.d .non) e3 (fun p hp => absurd hp (by simp))) n1
def mulAddN : List (PyData × List PyData) → PyData → PyData → List (PyData × List PyData)
  | [], d, x => [(d, [x])]
  | z :: l, d, x => if nkD z.1 = nkD d then (z.1, z.2 ++ [x]) :: l else z :: mulAddN l d x
theorem mn_there {K : PySem.W.Frag} {G : Rg} {H : Hp} {d : PyData} {kk : NestedKey} (hk : nkD d = some kk) (x : PyData) {v : V} {rs : List (NestedKey × Addr × V)} {qs : List Addr} {l : List (PyData × List PyData)} (h : MnRel K G H rs qs l) : qs.Nodup → ndGet rs kk = some v →
    ∃ q xs ds, q ∈ qs ∧ v = .ref q ∧ H q = some (.lst xs) ∧ DnA K G H xs ds ∧ (∃ y ∈ l, y.2 = ds) ∧ ∀ (H' : Hp) (xv : V), TupLe H H' → (∀ c ∈ qs, c ≠ q → H' c = H c) → H' q = some (.lst (xs ++ [xv])) → Dn K G H' xv x → MnRel K G H' rs qs (mulAddN l d x) := by
  induction h with
  | nil => intro _ h; cases h
  | @cons r rs q qs k xs ds l h1 h2 h3 h4 h5 h6 hr ih =>
    intro nd hv
    obtain ⟨n1, n2⟩ := List.nodup_cons.mp nd
    by_cases e : r.1 = kk
    · have e2 : nkD k = nkD d := by rw [h1, hk, e]
      have hv' : r.2.2 = v := by simpa [ndGet, e] using hv
      refine ⟨q, xs, ds, by simp, by rw [← hv', h4], h5, h6, ⟨_, List.mem_cons_self, rfl⟩, fun H' xv t c1 c2 c3 => ?_⟩
      unfold mulAddN
      rw [if_pos e2]
      exact .cons h1 h2 (h3.mono (fun _ _ z => z) t) h4 c2 ((h6.mono (fun _ _ z => z) t).append (.cons c3 .nil)) (hr.mono (fun _ _ z => z) t fun c hc => c1 c (by simp [hc]) fun z => n1 (by rw [← z]; exact hc))
    · have e2 : ¬ nkD k = nkD d := by rw [h1, hk]; simpa using e
      have hv' : ndGet rs kk = some v := by
        have : ndGet (r :: rs) kk = ndGet rs kk := by simp [ndGet, List.find?_cons, e]
        rw [← this]; exact hv
      obtain ⟨q', xs', ds', g1, g2, g3, g4, ⟨y, gy, gy2⟩, g5⟩ := ih n2 hv'
      refine ⟨q', xs', ds', by simp [g1], g2, g3, g4, ⟨y, List.mem_cons_of_mem _ gy, gy2⟩, fun H' xv t c1 c2 c3 => ?_⟩
      have e3 : mulAddN ((k, ds) :: l) d x = (k, ds) :: mulAddN l d x := by
        conv => lhs; unfold mulAddN
        rw [if_neg e2]
      rw [e3]
      exact .cons h1 h2 (h3.mono (fun _ _ z => z) t) h4 (by rw [c1 q (by simp) (fun z => n1 (by rw [z]; exact g1))]; exact h5) (h6.mono (fun _ _ z => z) t) (g5 H' xv t (fun c hc => c1 c (by simp [hc])) c2 c3)
theorem mn_new {K : PySem.W.Frag} {G : Rg} {H : Hp} {d : PyData} {kk : NestedKey} (hk : nkD d = some kk) (x : PyData) {rs : List (NestedKey × Addr × V)} {qs : List Addr} {l : List (PyData × List PyData)} (h : MnRel K G H rs qs l) (hn : ndGet rs kk = none) :
    mulAddN l d x = l ++ [(d, [x])] ∧ ∀ b v, ndPut rs kk b v = rs ++ [(kk, b, v)] := by
  induction h with
  | nil => exact ⟨rfl, fun _ _ => rfl⟩
  | @cons r rs q qs k xs ds l h1 h2 h3 h4 h5 h6 hr ih =>
    by_cases e : r.1 = kk
    · simp [ndGet, e] at hn
    · have e2 : ¬ nkD k = nkD d := by rw [h1, hk]; simpa using e
      have e1 : ndGet (r :: rs) kk = ndGet rs kk := by simp [ndGet, List.find?_cons, e]
      rw [e1] at hn
      obtain ⟨g1, g2⟩ := ih hn
      refine ⟨?_, fun b v => ?_⟩
      · conv => lhs; unfold mulAddN
        rw [if_neg e2, g1]; rfl
      · have q := g2 b v
        unfold ndPut at q ⊢
        by_cases f : (rs.any fun z => decide (z.1 = kk)) = true
        · rw [if_pos f] at q
          have := congrArg List.length q
          simp at this
        · rw [if_neg (by simp only [List.any_cons, e, decide_false, Bool.false_or]; exact f)]
theorem MnRel.snoc {K : PySem.W.Frag} {G : Rg} {H : Hp} {rs : List (NestedKey × Addr × V)} {qs : List Addr} {l : List (PyData × List PyData)} (h : MnRel K G H rs qs l) {kk : NestedKey} {b q : Addr} {k : PyData} {xs : List V} {ds : List PyData}
    (h1 : nkD k = some kk) (h2 : kk.depth ≤ 8) (h3 : Dn K G H (.ref b) k) (h5 : H q = some (.lst xs)) (h6 : DnA K G H xs ds) : MnRel K G H (rs ++ [(kk, b, .ref q)]) (qs ++ [q]) (l ++ [(k, ds)]) := by
  induction h with
  | nil => exact .cons h1 h2 h3 rfl h5 h6 .nil
  | cons a1 a2 a3 a4 a5 a6 _ ih => exact .cons a1 a2 a3 a4 a5 a6 ih
def mulAtN (Γ : List Sl) (i : Nat) : Option (Bool × List (PyData × List PyData)) := match Γ[i]? with
  | some (.own (.mul .n l)) => some (false, l)
  | some (.io (.mul .n l)) => some (true, l)
  | _ => none
theorem mulAtN_ok {Γ : List Sl} {i : Nat} {z : Bool × List (PyData × List PyData)} (h : mulAtN Γ i = some z) : Γ[i]? = some (mkS z.1 (.mul .n z.2)) := by
  unfold mulAtN at h
  split at h
  · cases h; assumption
  · cases h; assumption
  · cases h
def nMulN0 : DC := fun Γ => .val (.mul .n [], Γ)
def dSdaN (i : Nat) (fk : DF) (j : Nat) : DF := fun Γ => (R.ofO (mulAtN Γ i)).bind fun _ => (fk Γ).bind fun z => (R.ofO (mulAtN z.2 i)).bind fun c => (R.ofO (keepAt z.2 j)).bind fun x => match z.1 with
  | .d true kd => (R.req (nkOk kd && (decide (c.2.length < sizeLine) && c.2.all fun y => decide (y.2.length < sizeLine)))).bind fun _ => .val (.d true .none, z.2.set i (mkS c.1 (.mul .n (mulAddN c.2 kd x))))
  | _ => .bad
section
variable {X : Cx} {W : WX} {sc : Scope} {N : List Str} {x y : Str} {e : Expr} {pos lpos p1 p2 a1 a2 c1 c2 : Pos} {fk : DF}
theorem cc_mulN0 : CC X W (.Dict [] [] pos) nMulN0 := fun Γ =>
  pe_imp pe_dnewN fun σ H Q ⟨G, S, q⟩ p hp => q G H (Ext.rf S.w) _ _ S ⟨[p], fun a h => upd_ne (by simpa using h), fun a ha => by
    have : a = p := by simpa using ha
    subst this
    exact ⟨hp, by rw [upd_same]; simp⟩, mulN_mk (qs := []) (rs := []) (l := []) (by simp) upd_same .nil⟩
theorem mulN_last {K : PySem.W.Frag} {G : Gh} {H : Hp} {σ : St} {Γ : List Sl} {i : Nat} {io : Bool} {l : List (PyData × List PyData)} (S : Sta K G H σ Γ) (hi : Γ[i]? = some (mkS io (.mul .n l))) :
    ∃ p rs qs, σ[i]? = some (some (.ref p)) ∧ (p :: qs).Nodup ∧ H p = some (NdO p rs) ∧ MnRel K (RgN G) H rs qs l ∧
      ∀ H' l' rs' qs', (∀ a o, H a = some o → a ∉ p :: qs → H' a = some o) → (∀ a ∈ p :: qs, H' a ≠ none) → (p :: qs').Nodup → H' p = some (NdO p rs') → MnRel K (RgN G) H' rs' qs' l' →
        (∀ q ∈ qs', q ∈ qs ∨ H q = none) → ∃ G', Sta K G' H' σ (Γ.set i (mkS io (.mul .n l'))) ∧ Ext G H G' H' := by
  obtain ⟨v, fp, g1, g2, g3, g4, g5, g6⟩ := S.cellU i io hi
  obtain ⟨p, rs, qs, rfl, rfl, nd, hp, ls⟩ := mulN_inv g2
  refine ⟨p, rs, qs, g1, nd, hp, ls, fun H' l' rs' qs' k1 k2 nd' hp' ls' new => ?_⟩
  have nt : ∀ a ∈ p :: qs, ∀ xs, H a ≠ some (.tup xs) := fun a ha xs h => by
    rcases List.mem_cons.mp ha with rfl | ha
    · rw [hp] at h; cases h
    · obtain ⟨ys, h2⟩ := ls.nt a ha
      rw [h2] at h; cases h
  have t : TupLe H H' := fun a xs h => k1 a _ h fun ha => nt a ha xs h
  have w := S.w
  have fr : ∀ q, H q = none → G.N q = none := fun q hq => (w.fresh hq).1
  have all : ∀ q ∈ p :: qs', H' q ≠ none ∧ G.N q = none ∧ (q ∈ p :: qs ∨ H q = none) := fun q hq => by
    rcases List.mem_cons.mp hq with rfl | hq
    · refine ⟨by rw [hp']; simp, ?_, .inl (by simp)⟩
      cases z : G.N q with
      | none => rfl
      | some o => exact absurd (show q ∈ q :: qs by simp) (g4 true q o z)
    · obtain ⟨ys, h2⟩ := ls'.nt q hq
      refine ⟨by rw [h2]; simp, ?_, ?_⟩
      · rcases new q hq with h | h
        · cases z : G.N q with
          | none => rfl
          | some o => exact absurd (show q ∈ p :: qs by simp [h]) (g4 true q o z)
        · exact fr q h
      · exact (new q hq).imp (fun h => by simp [h]) id
  obtain ⟨G', S', e', _⟩ := g6 H' G.N (p :: qs') (.mul .n l') k1 k2 t (fun a o h => ⟨k1 a o (w.new a o h).1 (fun ha => g4 true a o h ha), .inr h⟩) (mulN_mk nd' hp' ls') all
  exact ⟨G', S', e'⟩
theorem ce_sdaN (C : Cf0 X W sc N) (i j : Nat) (hN : N[i]? = some x) (hv : visB sc x = true) (hNj : N[j]? = some y) (hvj : visB sc y = true) (hk : CE X W e fk)
    (m : M2 X (.Name x p1) "setdefault" a1 e (.List [] lpos) c1 := by exact ⟨rfl, rfl, rfl, rfl⟩)
    (hd : (x == ("__debug__" : Str)) = false := by decide +kernel) (hcd : (x == ("__classdict__" : Str)) = false := by decide +kernel)
    (hdj : (y == ("__debug__" : Str)) = false := by decide +kernel) (hcdj : (y == ("__classdict__" : Str)) = false := by decide +kernel)
    (hbase : attributeBase (.Call (.Attribute (.Name x p1) "setdefault" a1) [e, .List [] lpos] [] c1) "append" X.env (eval (.Call (.Attribute (.Name x p1) "setdefault" a1) [e, .List [] lpos] [] c1) X.env) = eval (.Call (.Attribute (.Name x p1) "setdefault" a1) [e, .List [] lpos] [] c1) X.env := by rfl)
    (hfew : ((backTo c2 (starEach [.Name y p2] X.env)).all (fun x => !x.1) && (backToKw c2 (keywordEach [] X.env)).all (fun x => x.1.isSome) && decide (([.Name y p2] : List Expr).length + ([] : List Keyword).length + (if ([] : List Keyword).isEmpty then 0 else 1) < 30)) = true := by rfl)
    (hline : (a2.endLine == c2.line) = true := by rfl) (hs : starEach [.Name y p2] X.env = (false, eval (.Name y p2) X.env) :: starEach [] X.env := by rfl) (hplain : (backTo c2 (starEach [] X.env)).any (·.1) = false := by rfl) :
    CE X W (.Call (.Attribute (.Call (.Attribute (.Name x p1) "setdefault" a1) [e, .List [] lpos] [] c1) "append" a2) [.Name y p2] [] c2) (dSdaN i fk j) := fun Γ => by
  unfold dSdaN
  cases h0 : mulAtN Γ i with
  | none => exact ev_bad
  | some c0 =>
    have ho := evp_cellR (W := W) (p1 := p1) C (mulAtN_ok h0) hN hv hd hcd
    have hj : PE X (.Name y p2) (tVar j) := pe_var (i := j) (by rw [C.hN]; exact hNj) (by rw [C.hsc]; exact vis_of hvj) hdj hcdj
    refine pe_imp (pe_bm PySem.F.plainAttrs_list PySem.F.slot_list_append PySem.F.type_list_append mt_append (pe_setdN (by have := u65 C; omega) ho (hk Γ) (pe_lst pa_nil) m) (pa_cons hj pa_nil hs) hbase hfew hline hs hplain) fun σ H Q ⟨G, S, pp⟩ => ⟨G, S, fun G1 H1 e1 v S1 hx => ?_⟩
    obtain ⟨a, rs0, qs0, g1, _, g3, _⟩ := mulN_last S1 (mulAtN_ok h0)
    have hx : σ[i]? = some (some v) := hx
    rw [g1] at hx
    cases hx
    have pp : Pst X W G H σ ((fk Γ).bind fun z => (R.ofO (mulAtN z.2 i)).bind fun c => (R.ofO (keepAt z.2 j)).bind fun x => match z.1 with
      | .d true kd => (R.req (nkOk kd && (decide (c.2.length < sizeLine) && c.2.all fun y => decide (y.2.length < sizeLine)))).bind fun _ => .val (AV.d true .none, z.2.set i (mkS c.1 (.mul .n (mulAddN c.2 kd x))))
      | _ => .bad) _ := pp
    refine ⟨a, rfl, ⟨rs0, g3⟩, G1, S1, (Pst.bind (Pst.ext pp e1)).imp fun z G2 H2 e2 p2' kv S2 hkv => ?_⟩
    obtain ⟨c, hc, p3⟩ := Pst.ofO p2'
    obtain ⟨xd, hxd, p4⟩ := Pst.ofO p3
    clear p2' p3
    obtain ⟨av, Γ2⟩ := z
    replace hc : mulAtN Γ2 i = some c := hc
    replace hxd : keepAt Γ2 j = some xd := hxd
    replace S2 : Sta X.K G2 H2 σ Γ2 := S2
    replace hkv : AVok X.K G2 H2 σ kv av := hkv
    simp only at p4
    split at p4
    · rename_i kd
      obtain ⟨hq, p5⟩ := Pst.req p4
      clear p4
      simp only [Bool.and_eq_true, decide_eq_true_eq, List.all_eq_true] at hq
      obtain ⟨q1, q2, q3⟩ := hq
      obtain ⟨p, rs, qs, k1, nd, hp, ls, fin⟩ := mulN_last S2 (mulAtN_ok hc)
      rw [g1] at k1
      cases k1
      obtain ⟨xv, hxv, dx⟩ := keepAt_ok S2 hxd
      replace hkv : Dn X.K (rg G2 true) H2 kv kd := hkv
      obtain ⟨⟨kxs, ekd⟩, kk, ek, edp⟩ := nkOk_ok q1
      obtain ⟨b, ws, rfl, hb, hw⟩ := dn_tupleH (by rw [← ekd]; exact hkv)
      have nd2 := (List.nodup_cons.mp nd)
      refine ⟨Nat.zero_le _, fun q0 hq0 => ⟨rs, kk, b, rg G2 true, kd, ?_, rfl, hkv.mono (fun _ _ z => z) (tup_upd hq0), ek, edp, fun r hr => ?_, by rw [ls.len]; exact q2, fun u hu => ?_, fun hu => ?_⟩⟩
      · rw [upd_ne (fun z => by rw [z, hq0] at hp; cases hp)]; exact hp
      · obtain ⟨G', k', r1, r2, r3⟩ := ls.ks r hr
        exact ⟨G', k', r1.mono (fun _ _ z => z) (tup_upd hq0), r2, r3⟩
      · obtain ⟨qi, xs, ds, m1, rfl, l2, l3, ⟨yy, hy1, hy2⟩, m5⟩ := mn_there ek xd ls nd2.2 hu
        have ne : qi ≠ q0 := fun z => by rw [z, hq0] at l2; cases l2
        have hl3 : (upd H2 q0 (.lst [])) qi = some (.lst xs) := by rw [upd_ne ne]; exact l2
        have hlt : xs.length < sizeLine := by
          rw [l3.length, ← hy2]
          exact q3 yy hy1
        have hpn : a ≠ q0 := fun z => by rw [z, hq0] at hp; cases hp
        have hpq : a ≠ qi := fun z => nd2.1 (by rw [z]; exact m1)
        refine ⟨.inl ⟨rfl, xs, SqL.of hl3⟩, xv, hxv, qi, xs, xv, rfl, rfl, hl3, hlt, ?_⟩
        have tq : TupLe H2 (upd (upd H2 q0 (.lst [])) qi (.lst (xs ++ [xv]))) := fun c ys z => by
          rw [upd_ne (fun w => by rw [w, l2] at z; cases z), upd_ne (fun w => by rw [w, hq0] at z; cases z)]; exact z
        obtain ⟨G5, S5, e5⟩ := fin (upd (upd H2 q0 (.lst [])) qi (.lst (xs ++ [xv]))) (mulAddN c.2 kd xd) rs qs (fun c o h hn => by
            rw [upd_ne (fun z => hn (by rw [z]; exact List.mem_cons_of_mem _ m1)), upd_ne (fun z => by rw [z, hq0] at h; cases h)]; exact h)
          (fun c hc => by
            by_cases z : c = qi
            · rw [z, upd_same]; simp
            · rw [upd_ne z]
              rcases List.mem_cons.mp hc with rfl | hc
              · rw [upd_ne hpn, hp]; simp
              · obtain ⟨ys, h2⟩ := ls.nt c hc
                rw [upd_ne (fun w => by rw [w, hq0] at h2; cases h2), h2]; simp)
          nd (by rw [upd_ne hpq, upd_ne hpn]; exact hp)
          (m5 _ xv tq (fun c hc hne => by
            rw [upd_ne hne, upd_ne (fun w => by obtain ⟨ys, h2⟩ := ls.nt c hc; rw [w, hq0] at h2; cases h2)]) upd_same (dx.mono (fun _ _ z => z) tq))
          (fun q hq => .inl hq)
        exact p5 G5 _ e5 _ S5 .non
      · obtain ⟨m1, m2⟩ := mn_new ek xd ls hu
        have ha0 : a ≠ q0 := fun z => by rw [z, hq0] at hp; cases hp
        have hq0' : (upd (upd H2 q0 (.lst [])) a (NdO a (ndPut rs kk b (.ref q0)))) q0 = some (.lst []) := by rw [upd_ne (Ne.symm ha0), upd_same]
        refine ⟨.inl ⟨rfl, [], SqL.of hq0'⟩, xv, hxv, q0, [], xv, rfl, rfl, hq0', by decide +kernel, ?_⟩
        have nq : q0 ∉ qs := fun h => by obtain ⟨ys, h2⟩ := ls.nt q0 h; rw [hq0] at h2; cases h2
        have hH5 : ∀ c, c ≠ q0 → c ≠ a → (upd (upd (upd H2 q0 (.lst [])) a (NdO a (ndPut rs kk b (.ref q0)))) q0 (.lst ([] ++ [xv]))) c = H2 c := fun c h1 h2 => by
          rw [upd_ne h1, upd_ne h2, upd_ne h1]
        have t5 : TupLe H2 (upd (upd (upd H2 q0 (.lst [])) a (NdO a (ndPut rs kk b (.ref q0)))) q0 (.lst ([] ++ [xv]))) := fun c ys h => by
          rw [hH5 c (fun z => by rw [z, hq0] at h; cases h) (fun z => by rw [z, hp] at h; cases h)]; exact h
        obtain ⟨G5, S5, e5⟩ := fin (upd (upd (upd H2 q0 (.lst [])) a (NdO a (ndPut rs kk b (.ref q0)))) q0 (.lst ([] ++ [xv]))) (mulAddN c.2 kd xd) (rs ++ [(kk, b, .ref q0)]) (qs ++ [q0]) (fun c o h hn => by
            rw [hH5 c (fun z => by rw [z, hq0] at h; cases h) (fun z => hn (by simp [z]))]; exact h)
          (fun c hc => by
            rcases List.mem_cons.mp hc with rfl | hc
            · rw [upd_ne ha0, upd_same]; simp
            · obtain ⟨ys, h2⟩ := ls.nt c hc
              rw [hH5 c (fun z => nq (by rw [← z]; exact hc)) (fun z => nd2.1 (by rw [← z]; exact hc)), h2]; simp)
          (by
            rw [← List.cons_append]
            refine List.nodup_append.mpr ⟨nd, by simp, fun c h1 c' h2 => ?_⟩
            have : c' = q0 := by simpa using h2
            subst this
            rintro rfl
            rcases List.mem_cons.mp h1 with h | h
            · exact ha0 h.symm
            · exact nq h)
          (by rw [upd_ne ha0, upd_same, m2]) (by
            rw [m1]
            exact (ls.mono (fun _ _ z => z) t5 fun c hc => hH5 c (fun z => nq (by rw [← z]; exact hc)) (fun z => nd2.1 (by rw [← z]; exact hc))).snoc ek edp (hkv.mono (fun _ _ z => z) t5) (xs := [xv]) upd_same (.cons (dx.mono (fun _ _ z => z) t5) .nil))
          (fun q hq => (List.mem_append.mp hq).imp id fun h => by
            have : q = q0 := by simpa using h
            rw [this]; exact hq0)
        exact p5 G5 _ e5 _ S5 .non
    · exact p4.elim
end
theorem MnRel.nd {K : PySem.W.Frag} {G G' : Rg} {H : Hp} {rs : List (NestedKey × Addr × V)} {qs : List Addr} {l : List (PyData × List PyData)} (h : MnRel K G H rs qs l) (g : RgLe G G') : (∀ q ∈ qs, ∀ o, H q = some o → G' q o) → NdRel K G' H rs (mulD l) := by
  induction h with
  | nil => exact fun _ => .nil
  | cons h1 h2 h3 h4 h5 h6 _ ih => exact fun k => .cons h1 h2 (h3.mono g (TupLe.rf _)) (by rw [h4]; exact .lst (.inl (k _ List.mem_cons_self _ h5)) (h6.mono g (TupLe.rf _))) (ih fun q hq => k q (List.mem_cons_of_mem _ hq))
theorem Sta.sinkN {K : PySem.W.Frag} {G : Gh} {H : Hp} {σ : St} {Γ : List Sl} {l : List (PyData × List PyData)} (s : Sta K G H σ Γ) (i : Nat) (hi : Γ[i]? = some (.own (.mul .n l))) :
    ∃ G', Sta K G' H σ (Γ.set i (.own (.dic .n (encN (mulD l))))) ∧ Ext G H G' H := by
  obtain ⟨v, H', h1, S1, e1, fp, n1, n2, n3⟩ := s.releaseC i hi
  obtain ⟨p, rs, qs, rfl, rfl, nd, hp, ls⟩ := mulN_inv n3
  obtain ⟨m1, m2⟩ := List.nodup_cons.mp nd
  let N' : Hp := fun a => if a ∈ qs then H a else G.N a
  have w' := S1.w
  have hH : ∀ a o, H' a = some o → H a = some o := fun a o h => by
    by_cases q : a ∈ p :: qs
    · rw [(n2 a q).1] at h; cases h
    · rw [n1 a q]; exact h
  have hT : TupLe H' H := fun a xs h => hH a _ h
  have g : Grow G H' N' H [] := by
    refine ⟨fun a o h _ => hH a o h, fun _ h => absurd h (by simp), hT, fun a o h => ?_, fun a o h => ?_⟩
    · show (if a ∈ qs then H a else G.N a) = some o
      by_cases q : a ∈ qs
      · have := (w'.new a o h).1
        rw [(n2 a (List.mem_cons_of_mem _ q)).1] at this; cases this
      · rw [if_neg q]; exact h
    · have h : (if a ∈ qs then H a else G.N a) = some o := h
      by_cases q : a ∈ qs
      · rw [if_pos q] at h
        exact ⟨h, .inr (n2 a (List.mem_cons_of_mem _ q)).1⟩
      · rw [if_neg q] at h
        exact ⟨hH a o (w'.new a o h).1, .inl h⟩
  obtain ⟨A, S⟩ := S1
  have fr := w'.fresh (n2 p (by simp)).1
  have lN : RgLe (RgN G) (fun a o => N' a = some o) := g.n
  have k1 : ∀ q ∈ [p], G.H0 q = none := fun q hq => by
    have : q = p := by simpa using hq
    rw [this]; exact fr.2.1
  have hrel : NdRel K (fun a o => N' a = some o) H rs (mulD l) := ls.nd lN fun q hq o h => by
    show (if q ∈ qs then H q else G.N q) = some o
    rw [if_pos hq]; exact h
  obtain ⟨d1, d2⟩ := ndRel_to (a := p) hrel
  have k4 : ∀ q ∈ [p], H q ≠ none ∧ N' q = none ∧ (q ∈ A i ∨ H' q = none) := fun q hq => by
    have : q = p := by simpa using hq
    rw [this]
    refine ⟨by rw [hp]; simp, ?_, .inr (n2 p (by simp)).1⟩
    show (if p ∈ qs then H p else G.N p) = none
    rw [if_neg m1]; exact fr.1
  obtain ⟨S2, e2⟩ := S.step (i := i) (fp' := [p]) (s' := .own (.dic .n (encN (mulD l)))) (σ' := σ) g (fun q hq => absurd hq (by simp)) (fun j hj => rfl) rfl (fun _ => ⟨.ref p, h1, k1, p, NdO p rs, encV rs, rfl, rfl, hp, d1, d2⟩) k4
  rw [List.set_set] at S2
  exact ⟨_, S2, ⟨e2.h0, e2.p, e2.i, e2.e, e2.n, e2.nn, TupLe.rf _, e2.w⟩⟩
def bSinkN (i : Nat) (g : DS) : DS := fun Γ => match Γ[i]? with
  | some (.own (.mul .n l)) => g (Γ.set i (.own (.dic .n (encN (mulD l)))))
  | _ => g Γ
section
variable {X : Cx} {W : WX} {sc : Scope} {N : List Str} {ss : List Stmt} {g : DS}
theorem cs_sinkN (i : Nat) (h : CS X W ss g) : CS X W ss (bSinkN i g) := fun Γ => by
  unfold bSinkN
  split
  · rename_i l hc
    exact pss_imp (h _) fun D σ H ⟨G, S, p⟩ => by
      obtain ⟨G2, S2, e2⟩ := S.sinkN i hc
      exact ⟨G2, S2, Pst.ext p e2⟩
  · exact h Γ
end
theorem Inv_frzNV {X : Cx} {pins : List (Addr × Obj)} {σ : St} {H : Hp} {s : Shared} {d : Addr} {o : Obj} {rs : List (NestedKey × Addr × V)} (I : Inv X pins σ H s) (h : H d = some (.frz o (NdO d rs))) :
    (d == sysModules) = false ∧ s.heap.get? d = some o ∧ o.ExactDict ∧ ∃ (es : Array DictEntry) (ep : Nat), o.data = .dict es ep ∧ es.size = rs.length ∧
      ∀ (i : Nat) (r : NestedKey × Addr × V), rs[i]? = some r → ∃ en : DictEntry, es[i]? = some en ∧ RelV r.2.2 en.val := by
  obtain ⟨hd, ⟨n1, n2, n3, w', xs, o', es, ep, pr, ho, hx, hdt, he, hn⟩, _⟩ := I.hok d _ h
  rw [hd] at ho
  cases ho
  have l1 : es.size = xs.length := by
    have := congrArg List.length he
    simpa using this
  have l2 : rs.length = xs.length := Paired.length pr
  refine ⟨n2, hd, hx, es, ep, hdt, by omega, fun i r e => ?_⟩
  obtain ⟨b, hb, e1, e2, e3⟩ := paired_get pr e
  have q : es.toList[i]? = some (⟨b.1.hash w', .ref b.2.1, b.2.2⟩ : DictEntry) := by rw [he, List.getElem?_map, hb]; rfl
  have q2 : es[i]? = some (⟨b.1.hash w', .ref b.2.1, b.2.2⟩ : DictEntry) := by simpa using q
  exact ⟨_, q2, e3⟩
def ItvN (d : Addr) (o : Obj) (rs : List (NestedKey × Addr × V)) : It :=
  ⟨fun i H => H d = some (.frz o (NdO d rs)) ∧ i < rs.length, fun i H x H' => H' = H ∧ ∃ r, rs[i]? = some r ∧ x = r.2.2, fun i H => H d = some (.frz o (NdO d rs)) ∧ rs.length ≤ i⟩
theorem turn_valsN {P : Program} {w : World} {K : PySem.W.Frag} {tg : Expr} {d : Addr} {o : Obj} {es : Array DictEntry} {ep : Nat} {rs : List (NestedKey × Addr × V)} (it : Addr) (hod : o.data = .dict es ep) : Turn P w K tg (ItvN d o rs) [it] it (fun i h => h.IsValIter it d i rs.length ep) where
  mem := by simp
  obj := fun i h st b hb => by
    have e : b = it := by simpa using hb
    subst e
    obtain ⟨oi, e, c, dd⟩ := st
    exact ⟨oi, e, fun v z => by rw [dd] at z; cases z⟩
  keep := fun i h h' st k => st.at fun oi e => k it (by simp) oi e
  item := by
    intro X hP hw hK hc i pins s σ H E I hf st hg
    subst hP hw hK
    obtain ⟨hd, hi⟩ := hg
    obtain ⟨f0, f1, f2, f3, f4, f5⟩ := hf it (by simp)
    obtain ⟨hs, hgd, hx, es', ep', hdt, hsz, ent⟩ := Inv_frzNV I hd
    obtain ⟨rfl, rfl⟩ := dict_ep hod hdt
    obtain ⟨r, hr⟩ : ∃ r, rs[i]? = some r := ⟨rs[i], List.getElem?_eq_getElem hi⟩
    obtain ⟨en, hen, hval⟩ := ent i r hr
    have hlt : i < es'.size := by omega
    have hv : es'[i] = en := by
      rw [Array.getElem?_eq_getElem hlt] at hen
      exact Option.some.inj hen
    rw [← hsz] at st
    refine wpAny_pyNext_values_item_raw st ⟨o, hgd, hx, hod⟩ hlt fun h' st' sb => ?_
    have I1 : Inv X pins σ H { s with heap := h' } := I.turned (t' := s.toks) (fun b ob hb e => (sb.2 b hb).trans e) f0 f1 f3 f4 f5
    obtain ⟨oi, e, c, dd⟩ := id st'
    refine ⟨es'[i].val, rfl, go_of (s := { s with heap := h' }) e c dd (by decide) ⟨r.2.2, H, I1, by rw [hv]; exact hval, ⟨rfl, r, hr, rfl⟩, ?_, fun b hb => (hf b hb).1⟩⟩
    show h'.IsValIter it d (i + 1) rs.length _
    rw [← hsz]
    exact st'
  done := by
    intro X hP hw hK hc i pins s σ H E I hf st hg
    subst hP hw hK
    obtain ⟨hd, hi⟩ := hg
    obtain ⟨f0, f1, f2, f3, f4, f5⟩ := hf it (by simp)
    obtain ⟨hs, hgd, hx, es', ep', hdt, hsz, ent⟩ := Inv_frzNV I hd
    obtain ⟨rfl, rfl⟩ := dict_ep hod hdt
    rw [← hsz] at st
    exact wpAny_pyNext_values_end_raw (I.ok.hd hc) st ⟨o, hgd, hx, hod⟩ (by omega) fun h' eb => ⟨rfl, I.turned (t' := s.toks) (fun b ob hb e => eb b ob hb e) f0 f1 f3 f4 f5⟩
  self := fun A i s Q E st h => wpAny_pyIter_valiter st h
def iValsN (td : TE) : TI := fun σ H R => td σ H fun x H1 => ∃ d o rs, x = .ref d ∧ H1 d = some (.frz o (NdO d rs)) ∧ R (ItvN d o rs) H1
theorem pi_valuesN {X : Cx} {tg e : Expr} {td : TE} {apos cpos : Pos} (he : PE X e td) (hbase : attributeBase e "values" X.env (eval e X.env) = eval e X.env := by rfl) (hline : (apos.endLine == cpos.line) = true := by rfl) : PI X tg (.Call (.Attribute e "values" apos) [] [] cpos) (iValsN td) := by
  refine ⟨fun pins s σ H R I h => ?_⟩
  refine wpAny_Call_method (T := "dict") (id := "dict.values") hbase rfl hline F.plainAttrs_dict F.slot_dict_values F.type_dict_values (thn (he.run pins s σ H _ I h) fun u s1 ⟨x, H1, I1, rx, d, o, rs, ex, hd, q⟩ => ?_)
  subst ex
  obtain rfl : u = Value.ref d := rx
  obtain ⟨hs, hgd, hx, es, ep, hdt, hsz, ent⟩ := Inv_frzNV I1 hd
  have hm : s1.heap.DictRaw d es ep := ⟨o, hgd, hx, hdt⟩
  refine ⟨hm.typeIs, fun b q => ?_, ?_⟩
  · cases q
    exact ⟨o, hgd, hx.2.1⟩
  have I2 : Inv X pins σ H1 { s1 with heap := s1.heap.push { cls := .type "dict_values", data := .fields #[.ref d] } } := I1.kept (t' := s1.toks) fun b ob q => Heap.get?_push_of_some _ q
  have fin : wpAny (PySem.model X.prog X.w) X.A (pyIter (.ref s1.heap.objs.size)) (PIE X pins σ tg R) X.xe { s1 with heap := s1.heap.push { cls := .type "dict_values", data := .fields #[.ref d] } } := by
    refine wpAny_pyIter_values_raw (d := d) ⟨_, Heap.get?_push_size _ rfl, rfl, rfl⟩ (hm.at fun ob q => Heap.get?_push_of_some _ q) (pi_one (tk := s1.toks) I2 _ (turn_valsN _ hdt) ⟨_, Heap.get?_push_size _ rfl, rfl, ?_⟩ q)
    rw [hsz] <;> rfl
  show wpAny _ _ (callWith cpos (.builtin "dict.values") [.ref d] [] []) _ X.xe s1
  exact method_meetsIn F.slot_dict_values F.entry_dict_values rfl (PySem.evalArgs_none ⟨rfl, hm.typeIs, F.args_dict_values_1 _, _, meets_dict_values_raw d hs, ⟨⟨es, ep, hm⟩, fin⟩⟩)
theorem NdRel.atV {K : PySem.W.Frag} {G : Rg} {H : Hp} {rs : List (NestedKey × Addr × V)} {l : List (PyData × PyData)} (n : NdRel K G H rs l) : ∀ {i : Nat} {r : NestedKey × Addr × V}, rs[i]? = some r → ∃ z, l[i]? = some z ∧ Dn K G H r.2.2 z.2 := by
  induction n with
  | nil => intro i r h; simp at h
  | @cons r0 rs k v l h1 h2 h3 h4 _ ih =>
    intro i r h
    cases i with
    | zero =>
      have : r0 = r := by simpa using h
      subst this
      exact ⟨(k, v), rfl, h4⟩
    | succ j => exact ih (by simpa using h)
section
variable {X : Cx} {W : WX} {sc : Scope} {N : List Str} {e tg : Expr} {f : DF} {apos cpos : Pos}
theorem itd_valsN {K : PySem.W.Frag} {G : Gh} {H : Hp} {a : Addr} {o : Obj} {rs : List (NestedKey × Addr × V)} {l : List (PyData × PyData)} {fr : Bool} (h : rg G fr a (.frz o (NdO a rs))) (n : NdRel K (rg G fr) H rs l) : ItD K G H (ItvN a o rs) (l.map (·.2)) fr := by
  have sq : ∀ G2 H2, Le G H G2 H2 → H2 a = some (.frz o (NdO a rs)) := fun G2 H2 e => e.w.rgl fr _ _ (e.rgl fr _ _ h)
  have hl := n.len
  refine ⟨fun i G2 H2 hi e => ⟨sq G2 H2 e, by simpa [hl] using hi⟩, fun i G2 H2 σ Γ v H3 hi e S y => ?_, fun G2 H2 e => ⟨sq G2 H2 e, by simp [hl]⟩⟩
  obtain ⟨rfl, r, hr, rfl⟩ := y
  obtain ⟨z, hz, hd⟩ := n.atV hr
  exact ⟨G2, z.2, by rw [List.getElem?_map, hz]; rfl, Ext.rf S.w, S, hd.mono (e.rgl fr) e.t⟩
def valNA : AV → Option (List PyData × Bool)
  | .d fr (.dict kvs) => (decN kvs).map fun l => (l.map (·.2), fr)
  | _ => none
def iValN (f : DF) : DI := fun Γ => (f Γ).bind fun z => (R.ofO (valNA z.1)).bind fun y => .val (y, z.2)
theorem ci_valN (h : CE X W e f) (hbase : attributeBase e "values" X.env (eval e X.env) = eval e X.env := by rfl) (hline : (apos.endLine == cpos.line) = true := by rfl) : CI X W tg (.Call (.Attribute e "values" apos) [] [] cpos) (iValN f) := fun Γ => by
  have h := h Γ
  unfold iValN
  cases hf : f Γ with
  | bad => exact pi_no fun σ H Q ⟨G, S, q⟩ => q
  | exc x =>
    rw [hf] at h
    exact pi_imp (pi_valuesN h hbase hline) fun σ H Q ⟨G, S, q⟩ => ⟨G, S, q⟩
  | val z =>
    rw [hf] at h
    obtain ⟨y, Γ1⟩ := z
    cases hy : valNA y with
    | none =>
      refine pi_no fun σ H Q ⟨G, S, q⟩ => ?_
      have q : Pst X W G H σ ((R.ofO (valNA y)).bind fun y => R.val (y, Γ1)) (fun r G' H' => ∀ J, Sta X.K G' H' σ r.2 → ItD X.K G' H' J r.1.1 r.1.2 → Q J H') := q
      rw [hy] at q
      exact q
    | some w =>
      have key : ∀ {σ H Q}, rdIU X W Γ ((R.val (y, Γ1)).bind fun z => (R.ofO (valNA z.1)).bind fun y => .val (y, z.2)) σ H Q → ∃ G, Sta X.K G H σ Γ ∧ ∀ G' H', Ext G H G' H' → ∀ J, Sta X.K G' H' σ Γ1 → ItD X.K G' H' J w.1 w.2 → Q J H' := fun {σ H Q} ⟨G, S, q⟩ => by
        have q : Pst X W G H σ ((R.ofO (valNA y)).bind fun y => R.val (y, Γ1)) (fun r G' H' => ∀ J, Sta X.K G' H' σ r.2 → ItD X.K G' H' J r.1.1 r.1.2 → Q J H') := q
        rw [hy] at q
        exact ⟨G, S, q⟩
      unfold valNA at hy
      split at hy
      · rename_i fr kvs
        cases hd : decN kvs with
        | none => rw [hd] at hy; cases hy
        | some l =>
          rw [hd] at hy; cases hy
          have e := decN_ok hd
          subst e
          refine pi_imp (pi_valuesN h hbase hline) fun σ H Q z => ?_
          obtain ⟨G, S, q⟩ := key z
          refine ⟨G, S, fun G' H' e' v S' a => ?_⟩
          obtain ⟨p, rs, ob, rfl, h1, h2⟩ := ndA_frz (fr := fr) a
          exact ⟨p, ob, rs, rfl, S'.w.rgl _ _ _ h1, q G' H' e' _ S' (itd_valsN h1 h2)⟩
      · cases hy
end
end PD
set_option Elab.async false
set_option linter.all false
set_option maxRecDepth 100000
set_option maxHeartbeats 4000000
set_option autoImplicit false
namespace PD
open PySem PySem.Spec L2
open PyProof.Rows hiding St
def stp {α : Type} (xs : List α) (k : Int) : List α := pickP (sliceRange 0 (xs.length : Nat) k) xs
theorem DnA.pickP {K : PySem.W.Frag} {G : Rg} {H : Hp} {vs : List V} {ds : List PyData} (h : DnA K G H vs ds) (pm : List Nat) : DnA K G H (pickP pm vs) (pickP pm ds) := by
  induction pm with
  | nil => exact .nil
  | cons i r ih =>
    unfold PD.pickP at ih ⊢
    rw [List.filterMap_cons, List.filterMap_cons]
    cases hv : vs[i]? with
    | none =>
      have : ds[i]? = none := by
        rw [List.getElem?_eq_none_iff] at hv ⊢
        rw [← h.length]; exact hv
      rw [this]; exact ih
    | some v =>
      obtain ⟨d, h1, h2⟩ := h.get hv
      rw [h1]
      exact .cons h2 ih
section
variable {X : Cx}
end
section
variable {X : Cx} {W : WX} {sc : Scope} {N : List Str} {a e : Expr} {f : DF} {fs : DO} {p3 pos : Pos}
end
end PD
set_option Elab.async false
set_option linter.all false
set_option maxRecDepth 100000
set_option maxHeartbeats 4000000
set_option autoImplicit false
namespace PD
open PySem PySem.Spec L2
open PyProof.Rows hiding St
section
variable {X : Cx} {W : WX} {sc : Scope} {N : List Str} {a b e : Expr} {f g : DF} {p2 pos apos : Pos}
end
end PD
set_option Elab.async false
set_option linter.all false
set_option maxRecDepth 100000
set_option maxHeartbeats 4000000
set_option autoImplicit false
namespace PD
open PySem PySem.Spec L2
open PyProof.Rows hiding St
section
variable {X : Cx} {W : WX} {sc : Scope} {N : List Str} {a b e tg o : Expr} {es : List Expr} {f g : DF} {p p2 pos apos cpos : Pos} {k : DA} {x : Str} {vs : List V} {ds : List PyData}
end
end PD
set_option Elab.async false
set_option linter.all false
set_option maxRecDepth 100000
set_option maxHeartbeats 4000000
set_option autoImplicit false
namespace PD
open PySem L2
section
variable {X : Cx} {W : WX} {sc : Scope} {N : List Str} {b b1 b2 e : Expr} {pos : Pos}
end
end PD
set_option Elab.async false
set_option linter.all false
set_option maxRecDepth 100000
set_option maxHeartbeats 4000000
set_option autoImplicit false
namespace PD
open PySem L2
def RowsAt (K : PySem.W.Frag) (G : Rg) (H : Hp) : List (Addr × List V) → List (List PyData) → Prop
  | [], [] => True
  | z :: l, ds :: dss => DnA K G H z.2 ds ∧ RowsAt K G H l dss
  | _, _ => False
theorem RowsAt.mono {K : PySem.W.Frag} {G G' : Rg} {H H' : Hp} (g : RgLe G G') (t : TupLe H H') : ∀ {l : List (Addr × List V)} {dss : List (List PyData)}, RowsAt K G H l dss → RowsAt K G' H' l dss
  | [], [], _ => trivial
  | _ :: _, _ :: _, h => ⟨h.1.mono g t, RowsAt.mono g t h.2⟩
  | [], _ :: _, h => h.elim
  | _ :: _, [], h => h.elim
theorem RowsAt.len {K : PySem.W.Frag} {G : Rg} {H : Hp} : ∀ {l : List (Addr × List V)} {dss : List (List PyData)}, RowsAt K G H l dss → l.length = dss.length
  | [], [], _ => rfl
  | _ :: _, _ :: _, h => by simp [RowsAt.len h.2]
  | [], _ :: _, h => h.elim
  | _ :: _, [], h => h.elim
theorem RowsAt.snoc {K : PySem.W.Frag} {G : Rg} {H : Hp} {z : Addr × List V} {ds : List PyData} (hz : DnA K G H z.2 ds) : ∀ {l : List (Addr × List V)} {dss : List (List PyData)}, RowsAt K G H l dss → RowsAt K G H (l ++ [z]) (dss ++ [ds])
  | [], [], _ => ⟨hz, trivial⟩
  | _ :: _, _ :: _, h => ⟨h.1, RowsAt.snoc hz h.2⟩
  | [], _ :: _, h => h.elim
  | _ :: _, [], h => h.elim
section
variable {X : Cx} {W : WX} {sc : Scope} {N : List Str} {Γ : List Sl} {tg iter elt : Expr} {scope : Scope} {own : List (Str × Nat)} {pos : Pos} {it : DI} {g : DG} {e : DN} {ts : List Nat}
end
end PD
set_option Elab.async false
set_option linter.all false
set_option maxRecDepth 100000
set_option maxHeartbeats 4000000
set_option autoImplicit false
namespace PD
open PySem L2
section
variable {X : Cx} {W : WX} {sc : Scope} {N : List Str} {tg iter elt a b e : Expr} {scope : Scope} {own : List (Str × Nat)} {pos apos cpos p p2 : Pos} {it : DI} {g : DG} {f : DF} {x y : Str} {ts : List Nat}
structure CompT (X : Cx) (W : WX) (sc : Scope) (N : List Str) (tg iter elt : Expr) (scope : Scope) (own : List (Str × Nat)) (ts : List Nat) (g : DG) (it : DI) (e : DN) : Prop where
  hin : CI X W tg iter it
  ok : blkC N sc scope own = true
  hg : ∀ (s : Shared) (H : Hp) (c : Addr) (cl : List (Str × Addr)) (fp : List Addr), CG (X.blk s H scope (compEnvC scope cl c X.env) fp) tg ts g
  he : ∀ (s : Shared) (H : Hp) (c : Addr) (cl : List (Str × Addr)) (fp : List Addr), CN (X.blk s H scope (compEnvC scope cl c X.env) fp) WF elt e
  hts : ∀ j ∈ ts, j ∈ own.map (·.2)
  hs : ∀ x, foldedSetIterable iter X.env x = pure x
def trlA (Γ : List Sl) (i : Nat) : Option (Bool × List Tre) := match cellAt Γ i with
  | some (io, .tr (.lst ts)) => some (io, ts)
  | _ => none
theorem trlA_ok {Γ : List Sl} {i : Nat} {z : Bool × List Tre} (h : trlA Γ i = some z) : Γ[i]? = some (if z.1 then .io (.tr (.lst z.2)) else .own (.tr (.lst z.2))) := by
  unfold trlA at h
  split at h
  · rename_i io ts hc
    cases h
    exact cellAt_ok hc
  · cases h
end
end PD
set_option Elab.async false
set_option linter.all false
set_option maxRecDepth 100000
set_option maxHeartbeats 4000000
set_option autoImplicit false
namespace PD
open PySem L2
def lsOk : Tre → Bool
  | .lst us => ltS us
  | _ => false
theorem Sta.trlAt {K : PySem.W.Frag} {G : Gh} {H : Hp} {σ : St} {Γ : List Sl} {j c : Nat} {ts us : List Tre} (S : Sta K G H σ Γ) (hg : Γ[j]? = some (.own (.tr (.lst ts)))) (hc : ts[c]? = some (.lst us)) :
    ∃ q ws p vs, σ[j]? = some (some (V.ref q)) ∧ H q = some (.lst ws) ∧ ws.length = ts.length ∧ ws[c]? = some (V.ref p) ∧ H p = some (.lst vs) ∧ vs.length = us.length ∧
      ∀ w x, Dn K (rg G true) H w x → ∃ G', Sta K G' (upd H p (.lst (vs ++ [w]))) σ (Γ.set j (.own (.tr (.lst (ts.set c (.lst (us ++ [.d x]))))))) ∧ Ext G H G' (upd H p (.lst (vs ++ [w]))) := by
  obtain ⟨v, fp, g1, ⟨g2, q, rfl, _⟩, g3, g4, g5, g6⟩ := S.cellU j false hg
  cases g2 with
  | lst h1 h2 h3 =>
    rename_i ws fr hor
    obtain ⟨p, vs, fq, k1, k2, k3, k4, k5, k6, k7⟩ := h2.setAt hc
    refine ⟨q, ws, p, vs, g1, h1, h2.length, k1, k3, k6.length, fun w x hx => ?_⟩
    have hqp : q ≠ p := fun e => h3 (e ▸ k2)
    have hN : ∀ a o, G.N a = some o → a ≠ p := fun a o e z => g4 true a o e (z ▸ List.mem_cons_of_mem _ k2)
    have t : TupLe H (upd H p (.lst (vs ++ [w]))) := fun a xs e => by
      rw [upd_ne (fun z => by rw [z, k3] at e; cases e)]; exact e
    have k6' : TresOk K (RgN G) (upd H p (.lst (vs ++ [w]))) vs fq us := TresOk.mono (fun _ _ z => z) t k6 fun a ha => upd_ne fun e => k4 (e ▸ ha)
    have hx : Dn K (RgN G) H w x := hx
    have hx2 : Dn K (RgN G) (upd H p (.lst (vs ++ [w]))) w x := hx.mono (fun _ _ z => z) t
    have tr := k7 (upd H p (.lst (vs ++ [w]))) (vs ++ [w]) (us ++ [.d x]) (fun a ha => upd_ne ha) upd_same (TresOk.snoc hx2 k6') t
    have ne : ∀ a ∈ q :: fr, upd H p (.lst (vs ++ [w])) a ≠ none := fun a ha => by
      by_cases z : a = p
      · rw [z, upd_same]; simp
      · rw [upd_ne z]; exact g3 a ha
    obtain ⟨G', S', e', _⟩ := g6 (upd H p (.lst (vs ++ [w]))) G.N (q :: fr) (.tr (.lst (ts.set c (.lst (us ++ [.d x]))))) (fun a o e hp => by rw [upd_ne (show a ≠ p from fun z => hp (by rw [z]; exact List.mem_cons_of_mem _ k2))]; exact e) ne t (fun a o e => ⟨by rw [upd_ne (hN a o e)]; exact (S.w.new a o e).1, .inr e⟩) ⟨.lst (by rw [upd_ne hqp]; exact h1) tr h3, q, rfl, .inl (by simp)⟩ (fun a ha => ⟨ne a ha, by
      cases q' : G.N a with
      | none => rfl
      | some o => exact absurd ha (g4 true a o q'), .inl ha⟩)
    exact ⟨G', S', e'⟩
section
variable {X : Cx} {W : WX} {sc : Scope} {N : List Str} {x y : Str}
end
end PD
set_option Elab.async false
set_option linter.all false
set_option maxRecDepth 100000
set_option maxHeartbeats 4000000
set_option autoImplicit false
namespace MinD
open PySem PySem.W PySem.Calls PyProof.Rows
section
variable {prog : Program} {w : World} {A : Around} {R : Result → Shared → Prop} {it B : Addr} {ft wt : List Addr} {len : Nat} {Pv : Nat → Value → Prop} {Tn : Nat → Heap → Prop} {kw : List (Str × Value)}
abbrev two (v : Value) (c : Nat) : Obj := { cls := .type "list", dict := none, data := .seq #[v, v] c, slots := #[] }
theorem nm : (toString "min" ++ toString ".loop" : String) = "min.loop" := by decide
theorem turns (K : Walks prog w A.in1 it ft wt len Pv Tn) (lt : Nat → Nat → Bool) (cmp : CmpOf prog w A.in1 .Lt Pv lt) (nb : B ∉ ft) (m : Nat) :
    ∀ (j : Nat) (s : Shared) (v : Value) (c : Nat), len - (j + 1) = m → j + 1 ≤ len → Tn (j + 1) s.heap → Pv (argBest lt j) v → s.heap.get? B = some (two v c) →
      (∀ u h' tk, Pv (argBest lt (len - 1)) u → (∀ b o, b ∉ wt → b ≠ B → s.heap.get? b = some o → h'.get? b = some o) → R (.ok (.ret u)) { s with heap := h', toks := tk }) → codeAny (model prog w) A (.builtin "min.loop" ⟨[.ref it, .none, .ref B], kw⟩) R s := by
  have nw : B ∉ wt := fun z => nb (K.sub _ z)
  induction m with
  | zero =>
    intro j s v c e1 e2 tn pv hb fin
    obtain rfl : j + 1 = len := by omega
    refine codeAny_builtin F.entry_min_loop ?_; rw [Around.under_plainId F.plain_min_loop _]
    refine wpAny_bind (m := seqItems? (.ref B)) (wpAny_seqItems hb rfl ?_)
    refine wpAny_bind (wpAny_tryCatch (K.done s _ _ tn fun g tk keep => ?_))
    have hb' := keep B _ nw hb
    refine wpAny_bind (m := updateSeq B (fun _ => #[])) (wpAny_updateSeq hb' rfl (wpAny_bind (wpAny_letGo (wpAny_pure ?_))))
    exact fin v _ tk pv fun b o x y z => (Heap.get?_update_other _ _ (Ne.symm y)).trans (keep b o x z)
  | succ m ih =>
    intro j s v c e1 e2 tn pv hb fin
    have lt1 : j + 1 < len := by omega
    refine codeAny_builtin F.entry_min_loop ?_; rw [Around.under_plainId F.plain_min_loop _]
    refine wpAny_bind (m := seqItems? (.ref B)) (wpAny_seqItems hb rfl ?_)
    refine wpAny_bind (wpAny_tryCatch (K.item (j + 1) s _ _ lt1 tn fun u g tk pu tn' keep => ?_))
    have hb' := keep B _ nw hb
    refine wpAny_bind (m := tryCatch (holding [u, u] (richCompare .Lt u v >>= _)) _) (wpAny_tryCatch (wpAny_holding (wpAny_bind (cmp (j + 1) (argBest lt j) u v _ _ _ pu pv ?_))))
    refine wpAny_bind (wpAny_holding (wpAny_truthy_bool (wpAny_bind (wpAny_letGo (wpAny_pure ?_)))))
    cases z : lt (j + 1) (argBest lt j) with
    | false =>
      simp only [Bool.false_eq_true, if_false]
      refine wpAny_bind (wpAny_letGo ?_); rw [nm]
      refine wpAny_pure ⟨plainId_quiet F.plain_min_loop _, ih (j + 1) _ v c (by omega) lt1 tn' (by simp only [argBest, z, Bool.false_eq_true, if_false]; exact pv) hb' fun u' h2 tk2 pu' keep2 => fin u' h2 tk2 pu' fun b o x y q => keep2 b o x y (keep b o x q)⟩
    | true =>
      simp only [if_true]
      refine wpAny_bind (wpAny_updateSeq hb' rfl (wpAny_bind (wpAny_letGo ?_))); rw [nm]
      refine wpAny_pure ⟨plainId_quiet F.plain_min_loop _, ih (j + 1) _ u _ (by omega) lt1 (K.frame _ _ _ tn' fun b x o e => (Heap.get?_update_other _ _ (fun h : B = b => nb (by rw [h]; exact x))).trans e) (by simp only [argBest, z, if_true]; exact pu) (Heap.get?_update_self _ hb' rfl) fun u' h2 tk2 pu' keep2 => ?_⟩
      exact fin u' h2 tk2 pu' fun b o x y q => keep2 b o x y ((Heap.get?_update_other _ _ (Ne.symm y)).trans (keep b o x q))
theorem start (K : Walks prog w A.in1 it ft wt len Pv Tn) (lt : Nat → Nat → Bool) (cmp : CmpOf prog w A.in1 .Lt Pv lt) (nb : B ∉ ft) {d : Value} {nme : Str} {s : Shared} {c : Nat} (tn : Tn 0 s.heap) (hb : s.heap.get? B = some { cls := .type "list", dict := none, data := .seq #[] c, slots := #[] })
    (fin0 : len = 0 → ∀ h' tk, (∀ b o, b ∉ wt → b ≠ B → s.heap.get? b = some o → h'.get? b = some o) → R (.ok (.ret d)) { s with heap := h', toks := tk })
    (fin : 0 < len → ∀ u h' tk, Pv (argBest lt (len - 1)) u → (∀ b o, b ∉ wt → b ≠ B → s.heap.get? b = some o → h'.get? b = some o) → R (.ok (.ret u)) { s with heap := h', toks := tk }) : codeAny (model prog w) A (.builtin "min.loop" ⟨[.ref it, .none, .ref B], [(nme, d)]⟩) R s := by
  have nw : B ∉ wt := fun z => nb (K.sub _ z)
  refine codeAny_builtin F.entry_min_loop ?_; rw [Around.under_plainId F.plain_min_loop _]
  refine wpAny_bind (m := seqItems? (.ref B)) (wpAny_seqItems hb rfl ?_)
  by_cases h0 : len = 0
  · subst h0
    refine wpAny_bind (wpAny_tryCatch (K.done s _ _ tn fun g tk keep => ?_))
    refine wpAny_bind (wpAny_rule ?_)
    exact wpAny_pure (fin0 rfl g tk fun b o x _ z => keep b o x z)
  · refine wpAny_bind (wpAny_tryCatch (K.item 0 s _ _ (by omega) tn fun u g tk pu tn' keep => ?_))
    have hb' := keep B _ nw hb
    refine wpAny_bind (m := updateSeq B (fun _ => #[u, u])) (wpAny_updateSeq hb' rfl ?_); rw [nm]
    refine wpAny_pure ⟨plainId_quiet F.plain_min_loop _, turns K lt cmp nb _ 0 _ u _ rfl (by omega) (K.frame _ _ _ tn' fun b x o e => (Heap.get?_update_other _ _ (fun h : B = b => nb (by rw [h]; exact x))).trans e) pu (Heap.get?_update_self _ hb' rfl) fun u' h2 tk2 pu' keep2 => ?_⟩
    exact fin (by omega) u' h2 tk2 pu' fun b o x y q => keep2 b o x y ((Heap.get?_update_other _ _ (Ne.symm y)).trans (keep b o x q))
end
section
variable {prog : Program} {w : World} {A : Around} {E : Value → Shared → Prop} {s : Shared} {l : Addr} {xs : Array (Int × Tok)}
end
end MinD
namespace PD
open PySem L2 PySem.W PySem.Calls
open PyProof.Rows hiding St
section
variable {X : Cx} {W : WX} {sc : Scope} {N : List Str} {e e2 : Expr} {p pos kpos : Pos} {f g : DF}
end
end PD
set_option Elab.async false
set_option linter.all false
set_option maxRecDepth 100000
set_option maxHeartbeats 4000000
set_option autoImplicit false
namespace PD
open PySem L2
abbrev DL := List Sl → R (List AV × Cl × List Sl)
section
variable {X : Cx} {W : WX} {sc : Scope} {N : List Str} {e : Expr} {es : List Expr} {f : DF} {k : DL} {n0 : DC}
end
section
variable {X : Cx} {W : WX} {sc : Scope} {N : List Str} {e : Expr} {es : List Expr} {x : Str} {p pos : Pos} {m : List Ar → R (Rs × List Sl)} {k : DL}
end
end PD
set_option Elab.async false
set_option linter.all false
set_option maxRecDepth 100000
set_option maxHeartbeats 4000000
set_option autoImplicit false
namespace PD
open PySem L2
inductive Atm where
  | v (i : Nat)
  | h (j c : Nat)
def AtV (σ : St) (H : Hp) : Atm → V → Prop
  | .v i, v => σ[i]? = some (some v)
  | .h j c, v => ∃ p ws, σ[j]? = some (some (.ref p)) ∧ H p = some (.lst ws) ∧ ws[c]? = some v
inductive AtVs (σ : St) (H : Hp) : List Atm → List V → Prop
  | nil : AtVs σ H [] []
  | cons {a : Atm} {as : List Atm} {v : V} {vs : List V} : AtV σ H a v → AtVs σ H as vs → AtVs σ H (a :: as) (v :: vs)
def tAts (as : List Atm) : TA := fun σ H Q => ∃ vs, AtVs σ H as vs ∧ Q vs H
def CAt (X : Cx) (es : List Expr) (as : List Atm) : Prop := PA X es (tAts as)
section
variable {X : Cx} {W : WX} {sc : Scope} {N : List Str} {e : Expr} {es : List Expr} {as : List Atm} {x : Str} {p p2 cp pos : Pos}
theorem cat_nil : CAt X [] [] := pa_imp pa_nil fun σ H Q ⟨vs, h, q⟩ => by cases h; exact q
theorem cat_v (C : Cf0 X W sc N) (i : Nat) (hN : N[i]? = some x) (hv : visB sc x = true) (hk : CAt X es as) (hd : (x == ("__debug__" : Str)) = false := by decide +kernel) (hcd : (x == ("__classdict__" : Str)) = false := by decide +kernel)
    (hs : starEach (.Name x p :: es) X.env = (false, eval (.Name x p) X.env) :: starEach es X.env := by rfl) : CAt X (.Name x p :: es) (.v i :: as) :=
  pa_imp (pa_cons (pe_var (by rw [C.hN]; exact hN) (by rw [C.hsc]; exact vis_of hv) hd hcd) hk hs) fun σ H Q ⟨vs, h, q⟩ => by
    cases h with
    | cons hv h => exact ⟨_, hv, _, h, q⟩
theorem cat_h (C : Cf0 X W sc N) (j c : Nat) {kk : Nat} (hN : N[j]? = some x) (hv : visB sc x = true) (hk : CAt X es as) (hd : (x == ("__debug__" : Str)) = false := by decide +kernel) (hcd : (x == ("__classdict__" : Str)) = false := by decide +kernel)
    (hix : PlainIx (.Constant (.int (c : Int)) kk cp) := by exact fun _ _ => rfl)
    (hs : starEach (.Subscript (.Name x p) (.Constant (.int (c : Int)) kk cp) p2 :: es) X.env = (false, eval (.Subscript (.Name x p) (.Constant (.int (c : Int)) kk cp) p2) X.env) :: starEach es X.env := by rfl) : CAt X (.Subscript (.Name x p) (.Constant (.int (c : Int)) kk cp) p2 :: es) (.h j c :: as) :=
  pa_imp (pa_cons (pe_ix ix_list (pe_var (by rw [C.hN]; exact hN) (by rw [C.hsc]; exact vis_of hv) hd hcd) pe_int hix) hk hs) fun σ H Q ⟨vs, h, q⟩ => by
    cases h with
    | cons hv h =>
      obtain ⟨a, ws, h1, h2, h3⟩ := hv
      exact ⟨.ref a, h1, a, ws, (c : Int), _, rfl, rfl, SqL.of h2, at_natV h3, _, h, q⟩
end
def atA (Γ : List Sl) : Atm → Option (Bool × PyData)
  | .v i => match Γ[i]? with
    | some (.dat fr d) => some (fr, d)
    | _ => none
  | .h j c => (trlA Γ j).bind fun z => (z.2[c]?).bind fun t => (trD t).map fun d => (false, d)
theorem TresOk.at {K : PySem.W.Frag} {G : Rg} {H : Hp} : ∀ {ws : List V} {fp : List Addr} {ts : List Tre} {c : Nat} {t : Tre}, TresOk K G H ws fp ts → ts[c]? = some t → ∃ v f, ws[c]? = some v ∧ TreOk K G H v f t
  | _, _, _, c, t, .nil, e => by simp at e
  | _, _, _, 0, t, .cons h a n, e => by simp at e; subst e; exact ⟨_, _, rfl, h⟩
  | _, _, _, c + 1, t, .cons h a n, e => by
    obtain ⟨v, f, h1, h2⟩ := TresOk.at (c := c) a (by simpa using e)
    exact ⟨v, f, by simpa using h1, h2⟩
theorem atA_ok {K : PySem.W.Frag} {G : Gh} {H : Hp} {σ : St} {Γ : List Sl} (S : Sta K G H σ Γ) {a : Atm} {z : Bool × PyData} (h : atA Γ a = some z) : (∃ v, AtV σ H a v) ∧ ∀ v, AtV σ H a v → Dn K (RgH H) H v z.2 ∧ (z.1 = true → Dn K (RgN G) H v z.2) := by
  cases a with
  | v i =>
    unfold atA at h
    simp only at h
    split at h
    · rename_i fr d hg
      cases h
      obtain ⟨A, T⟩ := id S
      obtain ⟨_, v, h1, h2⟩ := T.sl i _ hg
      refine ⟨⟨v, h1⟩, fun u hu => ?_⟩
      have hu : σ[i]? = some (some u) := hu
      rw [h1] at hu
      cases hu
      exact ⟨h2.mono (S.w.rgl fr) (TupLe.rf _), fun e => by
        have e : fr = true := e
        subst e
        exact h2⟩
    · cases h
  | h j c =>
    unfold atA at h
    simp only at h
    obtain ⟨y, hy, h⟩ := Option.bind_eq_some_iff.mp h
    obtain ⟨t, ht, h⟩ := Option.bind_eq_some_iff.mp h
    obtain ⟨d, hd, rfl⟩ := Option.map_eq_some_iff.mp h
    obtain ⟨u, fp, g1, ⟨g2, q, rfl, _⟩, _⟩ := S.cellU j y.1 (trlA_ok hy)
    cases g2 with
    | lst h1 h2 h3 =>
      rename_i ws fq hor hoth
      obtain ⟨v, f, k1, k2⟩ := h2.at ht
      refine ⟨⟨v, q, ws, g1, h1, k1⟩, fun u hu => ?_⟩
      obtain ⟨q', ws', a1, a2, a3⟩ := hu
      rw [g1] at a1
      cases a1
      rw [h1] at a2
      cases a2
      rw [k1] at a3
      cases a3
      exact ⟨TreOk.dn (G := RgN G) (fun a o z => (S.w.new a o z).1) k2 (fun a _ o z => z) d hd, fun e => by cases e⟩
theorem args_none {K : PySem.W.Frag} {H : Hp} {G : Gh} {vs : List V} {ars : List Ar} (w : Wf G H) (hl : vs.length = ars.length) (ha : ∀ (i : Nat) x, ars[i]? = some (Ar.d x) → ∃ v, vs[i]? = some v ∧ Dn K (RgH H) H v x) (hn : ∀ (i : Nat) x, ars[i]? = some (Ar.n x) → ∃ v, vs[i]? = some v ∧ Dn K (RgN G) H v x) (hx : ∀ (i : Nat) c, ars[i]? ≠ some (Ar.c c)) : ArgsU K H vs ars (fun _ => []) [] G.N where
  len := hl
  dat := fun i x hi => by
    obtain ⟨v, h1, h2⟩ := ha i x hi
    exact ⟨v, h1, h2.mono (fun a o z => ⟨z, by simp⟩) (TupLe.rf _)⟩
  cel := fun i c hi => absurd hi (hx i c)
  emp := fun _ _ => rfl
  all := fun _ _ h => by cases h
  al := fun _ h => by cases h
  dj := fun _ _ _ h => by cases h
  nat := fun i x hi => hn i x hi
  bok := fun a o h => ⟨(w.new a o h).1, by simp⟩
section
variable {X : Cx} {W : WX} {sc : Scope} {N : List Str} {e : Expr} {es : List Expr} {as : List Atm} {x : Str} {p pos : Pos} {m : List Ar → R (Rs × List Sl)}
end
end PD
set_option Elab.async false
set_option linter.all false
set_option maxRecDepth 100000
set_option maxHeartbeats 4000000
set_option autoImplicit false
namespace PD
open PySem L2
section
variable {X : Cx} {W : WX} {sc : Scope} {N : List Str} {e e1 : Expr} {x : Str} {p p2 cp cp2 pos tpos apos cpos : Pos} {f : DF} {n : DN}
end
end PD
set_option Elab.async false
set_option linter.all false
set_option maxRecDepth 100000
set_option maxHeartbeats 4000000
set_option autoImplicit false
namespace PD
open PySem L2
section
variable {X : Cx} {W : WX} {sc : Scope} {N : List Str} {e : Expr} {x : Str} {p p2 ipos cp cp2 pos tpos apos cpos : Pos} {f : DF}
end
end PD
set_option Elab.async false
set_option linter.all false
set_option maxRecDepth 100000
set_option maxHeartbeats 4000000
set_option autoImplicit false
namespace PD
open PySem L2
theorem AtVs.heap {σ : St} {H H2 : Hp} : ∀ {is : List Nat} {vs : List V}, AtVs σ H (is.map Atm.v) vs → AtVs σ H2 (is.map Atm.v) vs
  | [], _, .nil => .nil
  | _ :: _, _, .cons h k => .cons h (AtVs.heap k)
section
variable {X : Cx} {W : WX} {sc : Scope} {N : List Str} {e : Expr} {es : List Expr} {is : List Nat} {x : Str} {p pos : Pos} {m : List Ar → R (Rs × List Sl)} {n0 : DC}
end
end PD
set_option Elab.async false
set_option linter.all false
set_option maxRecDepth 100000
set_option maxHeartbeats 4000000
set_option autoImplicit false
namespace PD
open PySem L2
def atQ (Γ : List Sl) (r : Nat) (x : PyData) : Atm → Option (Bool × PyData)
  | .v i => if i = r then none else atA Γ (.v i)
  | .h j c => if j = r ∧ c = 0 then some (true, x) else none
def arQ (Γ : List Sl) (r : Nat) (x : PyData) : List Bool → List Atm → Option (List Ar)
  | [], [] => some []
  | b :: ms, a :: as => (atQ Γ r x a).bind fun z => if b && !z.1 then none else (arQ Γ r x ms as).map fun q => (if b then Ar.n z.2 else Ar.d z.2) :: q
  | _, _ => none
def selB (m : List Ar → R (Rs × List Sl)) (Γ : List Sl) (r : Nat) (ms : List Bool) (as : List Atm) : List Tre → Option (List Bool)
  | [] => some []
  | .lst (.d x :: us) :: ts => match arQ Γ r x ms as with
    | some ars => match m ars with
      | .val (.d (.bool z), _) => (selB m Γ r ms as ts).map fun zs => z :: zs
      | _ => none
    | none => none
  | _ :: _ => none
theorem selB_at {m : List Ar → R (Rs × List Sl)} {Γ : List Sl} {r : Nat} {ms : List Bool} {as : List Atm} : ∀ {ts : List Tre} {zs : List Bool}, selB m Γ r ms as ts = some zs → zs.length = ts.length ∧ ∀ (k : Nat) (t : Tre), ts[k]? = some t → ∃ x us ars z Z, t = .lst (.d x :: us) ∧ arQ Γ r x ms as = some ars ∧ zs[k]? = some z ∧ m ars = .val (.d (.bool z), Z)
  | [], zs, h => by
    cases h
    exact ⟨rfl, fun k t h => by simp at h⟩
  | t :: ts, zs, h => by
    unfold selB at h
    split at h
    · rename_i heq; cases heq
    · rename_i x us ts' heq
      cases heq
      split at h
      · rename_i ars har
        split at h
        · rename_i z Z hm
          obtain ⟨zs', h1, rfl⟩ := Option.map_eq_some_iff.mp h
          obtain ⟨l, ih⟩ := selB_at h1
          refine ⟨by simp [l], fun k t' hk => ?_⟩
          cases k with
          | zero =>
            simp at hk
            subst hk
            exact ⟨x, us, ars, z, Z, rfl, har, rfl, hm⟩
          | succ k =>
            obtain ⟨x', us', ars', z', Z', q1, q2, q3, q4⟩ := ih k t' (by simpa using hk)
            exact ⟨x', us', ars', z', Z', q1, q2, by simpa using q3, q4⟩
        · cases h
      · cases h
    · cases h
theorem atQ_ok {K : PySem.W.Frag} {G : Gh} {H : Hp} {σ : St} {Γ : List Sl} {r : Nat} {p : Addr} {vs : List V} {u : V} {x : PyData} (S : Sta K G H σ Γ) (hr : σ[r]? = some (some (.ref p))) (hp : H p = some (.lst vs)) (hu : vs[0]? = some u) (hx : Dn K (RgN G) H u x) {a : Atm} {z : Bool × PyData} (h : atQ Γ r x a = some z) : ∃ v, AtV σ H a v ∧ Dn K (RgH H) H v z.2 ∧ (z.1 = true → Dn K (RgN G) H v z.2) := by
  cases a with
  | v i =>
    by_cases e : i = r
    · have h : (if i = r then none else atA Γ (.v i)) = some z := h
      rw [if_pos e] at h; cases h
    · have h : (if i = r then none else atA Γ (.v i)) = some z := h
      rw [if_neg e] at h
      obtain ⟨⟨v, h1⟩, h2⟩ := atA_ok S h
      exact ⟨v, h1, h2 v h1⟩
  | h j c =>
    by_cases e : j = r ∧ c = 0
    · have h : (if j = r ∧ c = 0 then some (true, x) else none) = some z := h
      rw [if_pos e] at h
      cases h
      obtain ⟨rfl, rfl⟩ := e
      exact ⟨u, ⟨p, vs, hr, hp, hu⟩, hx.mono (S.w.rgl true) (TupLe.rf _), fun _ => hx⟩
    · have h : (if j = r ∧ c = 0 then some (true, x) else none) = some z := h
      rw [if_neg e] at h; cases h
theorem arQ_ok {K : PySem.W.Frag} {G : Gh} {H : Hp} {σ : St} {Γ : List Sl} {r : Nat} {p : Addr} {ps : List V} {u : V} {x : PyData} (S : Sta K G H σ Γ) (hr : σ[r]? = some (some (.ref p))) (hp : H p = some (.lst ps)) (hu : ps[0]? = some u) (hx : Dn K (RgN G) H u x) : ∀ {ms : List Bool} {as : List Atm} {ars : List Ar}, arQ Γ r x ms as = some ars → ∃ vs, AtVs σ H as vs ∧ vs.length = ars.length ∧
    (∀ (i : Nat) x, ars[i]? = some (Ar.d x) → ∃ v, vs[i]? = some v ∧ Dn K (RgH H) H v x) ∧ (∀ (i : Nat) x, ars[i]? = some (Ar.n x) → ∃ v, vs[i]? = some v ∧ Dn K (RgN G) H v x) ∧ ∀ (i : Nat) c, ars[i]? ≠ some (Ar.c c)
  | [], [], ars, h => by
    cases h
    exact ⟨[], .nil, rfl, fun i x h => by simp at h, fun i x h => by simp at h, fun i c h => by simp at h⟩
  | b :: ms, a :: as, ars, h => by
    unfold arQ at h
    obtain ⟨z, hz, h⟩ := Option.bind_eq_some_iff.mp h
    split at h
    · cases h
    rename_i hb
    obtain ⟨ar, h1, rfl⟩ := Option.map_eq_some_iff.mp h
    obtain ⟨v, hv, d1, d2⟩ := atQ_ok S hr hp hu hx hz
    obtain ⟨vs, k0, l, k1, k2, k3⟩ := arQ_ok S hr hp hu hx h1
    refine ⟨v :: vs, .cons hv k0, by simp [l], fun i x hi => ?_, fun i x hi => ?_, fun i y hi => ?_⟩
    · cases i with
      | zero =>
        cases b with
        | true => simp at hi
        | false =>
          simp at hi
          subst hi
          exact ⟨v, rfl, d1⟩
      | succ i => exact k1 i x (by simpa using hi)
    · cases i with
      | zero =>
        cases b with
        | false => simp at hi
        | true =>
          simp at hi
          subst hi
          have : z.1 = true := by
            cases q : z.1 with
            | true => rfl
            | false => rw [q] at hb; exact absurd rfl hb
          exact ⟨v, rfl, d2 this⟩
      | succ i => exact k2 i x (by simpa using hi)
    · cases i with
      | zero => cases b <;> simp at hi
      | succ i => exact k3 i y (by simpa using hi)
  | [], _ :: _, _, h => by cases h
  | _ :: _, [], _, h => by cases h
theorem Sta.rowAt {K : PySem.W.Frag} {G : Gh} {H : Hp} {σ : St} {Γ : List Sl} {j c : Nat} {ts us : List Tre} {x : PyData} (S : Sta K G H σ Γ) (hg : Γ[j]? = some (.own (.tr (.lst ts)))) (hc : ts[c]? = some (.lst (.d x :: us))) :
    ∃ q ws p vs u, σ[j]? = some (some (V.ref q)) ∧ H q = some (.lst ws) ∧ ws.length = ts.length ∧ ws[c]? = some (V.ref p) ∧ H p = some (.lst vs) ∧ vs[0]? = some u ∧ Dn K (RgN G) H u x := by
  obtain ⟨v, fp, g1, ⟨g2, q, rfl, _⟩, g3, g4, g5, g6⟩ := S.cellU j false hg
  cases g2 with
  | lst h1 h2 h3 =>
    rename_i ws fr hor
    obtain ⟨v, f, k1, k2⟩ := h2.at hc
    cases k2 with
    | lst m1 m2 m3 =>
      rename_i p vs fq
      cases m2 with
      | cons n1 n2 n3 =>
        cases n1 with
        | d hx => exact ⟨q, ws, p, _, _, g1, h1, h2.length, k1, m1, rfl, hx⟩
theorem Sta.lstAt {K : PySem.W.Frag} {G : Gh} {H : Hp} {σ : St} {Γ : List Sl} {j : Nat} {ts : List Tre} (S : Sta K G H σ Γ) (hg : Γ[j]? = some (.own (.tr (.lst ts)))) : ∃ q ws, σ[j]? = some (some (V.ref q)) ∧ H q = some (.lst ws) ∧ ws.length = ts.length := by
  obtain ⟨v, fp, g1, ⟨g2, q, rfl, _⟩, g3, g4, g5, g6⟩ := S.cellU j false hg
  cases g2 with
  | lst h1 h2 h3 => exact ⟨_, _, g1, h1, h2.length⟩
def selR (zs : List Bool) (ws : List V) : Nat → List V
  | 0 => []
  | k + 1 => selR zs ws k ++ (if zs[k]? = some true then (match ws[k]? with | some w => [w] | none => []) else [])
theorem selR_len (zs : List Bool) (ws : List V) : ∀ k, (selR zs ws k).length ≤ k
  | 0 => Nat.le_refl _
  | k + 1 => by
    have := selR_len zs ws k
    unfold selR
    rw [List.length_append]
    split
    · split <;> simp <;> omega
    · simp; omega
end PD
set_option Elab.async false
set_option linter.all false
set_option maxRecDepth 100000
set_option maxHeartbeats 4000000
set_option autoImplicit false
namespace PD
open PySem L2
section
variable {X : Cx} {Γ : List Sl} {m : List Ar → R (Rs × List Sl)} {r j : Nat} {ms : List Bool} {as : List Atm} {E : St → XK}
def tQ (X : Cx) (m : List Ar → R (Rs × List Sl)) (E : St → XK) (as : List Atm) : TE := tCallSD (spU X.K X.mg m) [] E (tAts as)
theorem there_loop {G : Gh} {H : Hp} {σ : St} {ts : List Tre} {zs : List Bool} {Q : VK} (S : Sta X.K G H σ Γ) (hj : Γ[j]? = some (.own (.tr (.lst ts)))) (hrj : r ≠ j) (hr : r < Γ.length) (hsel : selB m (Γ.set r .un) r ms as ts = some zs) (hsz : ts.length ≤ sizeLine)
    (q : ∀ G2 H2 D q ws, Ext G H G2 H2 → (∀ a o, H a = some o → H2 a = some o) → Sta X.K G2 H2 σ (Γ.set r .un) → H2 D = some (.lst (selR zs ws ts.length)) → σ[j]? = some (some (.ref q)) → H2 q = some (.lst ws) → ws.length = ts.length → Q (.ref D) H2) :
    tLc (iList X.K (tVar j)) (gName r) (tB (tQ X m E as)) (tVar r) [r] σ H Q := by
  obtain ⟨q0, ws, g1, g2, g3⟩ := S.lstAt hj
  obtain ⟨zl, zat⟩ := selB_at hsel
  have hlen : Γ.length = σ.length := by
    obtain ⟨A, SA⟩ := id S
    exact SA.len
  have hjw : (Γ.set r .un)[j]? = some (.own (.tr (.lst ts))) := by rw [List.getElem?_set_ne hrj]; exact hj
  have hrw : (Γ.set r .un)[r]? = some .un := List.getElem?_set_self hr
  have hwr : ∀ k : Nat, k ≠ r → (L2.wipe σ [r])[k]? = σ[k]? := fun k hk => wipe_out (by simpa using hk)
  refine ⟨.ref q0, g1, q0, rfl, ⟨ws, SqL.of g2⟩, fun D hD => ?_⟩
  have Sw : Sta X.K G H (L2.wipe σ [r]) (Γ.set r .un) := S.wipeS [r]
  have hE0 : G.E D = none := by
    cases z : G.E D with
    | none => rfl
    | some u => rw [(S.w.ex D u z).1] at hD; cases hD
  have hID : ∀ k, G.I k ≠ some (.ref D) := fun k h => by
    rcases S.w.iv k D h with z | z | ⟨xs, z⟩
    · exact S.w.pal D z hD
    · exact z hE0
    · rw [hD] at z; cases z
  obtain ⟨S2, t2⟩ := Sw.pin (o := .lst []) hD
  have hww : L2.wipe (L2.wipe σ [r]) [r] = L2.wipe σ [r] := wipe_eq (ts := [r]) (wipe_length ..) (fun j hj => wipe_out hj) (fun j hj => hj)
  let body : Nat → Hp → Prop := fun k H2 => k ≤ ts.length ∧ ∃ G2, Sta X.K G2 H2 (L2.wipe σ [r]) (Γ.set r .un) ∧ Le G H G2 H2 ∧ G2.E = upd G.E D (.lst (selR zs ws k)) ∧ G2.I = G.I ∧ ∀ a o, H a = some o → H2 a = some o
  refine ⟨fun i mm H2 => mm = ts.length - i ∧ body i H2, ⟨_, rfl, Nat.zero_le _, _, S2, ⟨rfl, rfl, fun _ _ h => h, fun _ _ h => .inl h, t2, S2.w, fun a o h => ?_⟩, rfl, rfl, fun a o h => ?_⟩, ?_⟩
  · show upd G.E D _ a = _
    rw [upd_ne (fun z => by rw [z, hE0] at h; cases h)]; exact h
  · rw [upd_ne (fun z => by rw [z, hD] at h; cases h)]; exact h
  rintro i mm H2 ⟨rfl, hile, G2, S2, l2, hE2, hI2, kp⟩
  have hq2 : H2 q0 = some (.lst ws) := kp _ _ g2
  by_cases hlt : i < ts.length
  · refine .inr ⟨⟨ws, ws[i]'(by omega), SqL.of hq2, List.getElem?_eq_getElem (by omega)⟩, body (i + 1), fun H' hb => ⟨_, (by omega), rfl, hb⟩, fun w H3 y => ?_⟩
    obtain ⟨e3, hy⟩ := y
    have e3 := e3.symm
    subst e3
    obtain ⟨x, us, ars, z, Z, ht, har, hz, hm⟩ := zat i ts[i] (List.getElem?_eq_getElem hlt)
    have hti : ts[i]? = some (.lst (.d x :: us)) := by rw [List.getElem?_eq_getElem hlt, ht]
    have hrl : r < (L2.wipe σ [r]).length := by rw [wipe_length]; omega
    have S3 : Sta X.K G2 H2 ((L2.wipe σ [r]).set r (some w)) (Γ.set r .un) := S2.swap (List.length_set ..) fun k => by
      by_cases e : k = r
      · subst e; exact .inr hrw
      · exact .inl (List.getElem?_set_ne (Ne.symm e))
    obtain ⟨q', ws', p, vs, u, f1, f2, f3, f4, f5, f6, f7⟩ := S3.rowAt hjw hti
    have hj3 : ((L2.wipe σ [r]).set r (some w))[j]? = some (some (.ref q0)) := by rw [List.getElem?_set_ne hrj, hwr j (Ne.symm hrj)]; exact g1
    rw [hj3] at f1
    cases f1
    rw [hq2] at f2
    cases f2
    have hw : w = .ref p := by
      have := hy ws (SqL.of hq2)
      rw [f4] at this
      exact (Option.some.inj this).symm
    subst hw
    have hsr : ((L2.wipe σ [r]).set r (some (V.ref p)))[r]? = some (some (.ref p)) := List.getElem?_set_self hrl
    have hw2 : L2.wipe ((L2.wipe σ [r]).set r (some (V.ref p))) [r] = L2.wipe σ [r] := (wipe_eq (ts := [r]) (List.length_set ..) (fun k hk => List.getElem?_set_ne (fun e => hk (by simp [e]))) (fun k hk => hk)).trans hww
    refine ⟨hw2, ?_⟩
    obtain ⟨vals, hv, hl, a1, a2, a3⟩ := arQ_ok S3 hsr f5 f6 f7 har
    refine ⟨vals, hv, _, _, _, G2.N, by rw [List.append_nil]; exact args_none S3.w hl a1 a2 a3, ?_⟩
    rw [hm]
    intro H' N' F' P
    obtain ⟨G', S', e', l⟩ := call_end S3 (fun a o h => P.keep a o h (by simp)) P.new
    intro v hv
    cases hv
    refine ⟨z, rfl, ?_⟩
    have hE5 : G'.E = upd G.E D (.lst (selR zs ws i)) := e'.e.trans hE2
    have hD5 : H' D = some (.lst (selR zs ws i)) := (S'.w.ex D _ (by rw [hE5, upd_same])).1
    have kp' : ∀ a o, H a = some o → H' a = some o := fun a o h => P.keep a o (kp a o h) (by simp)
    have l5 : Le G H G' H' := l2.tr e'.le
    have S6 : Sta X.K G' H' (L2.wipe σ [r]) (Γ.set r .un) := by
      have := S'.wipeS [r]
      rw [hw2] at this
      have e9 : wipeG (Γ.set r .un) [r] = Γ.set r .un := by show (Γ.set r Sl.un).set r .un = _; rw [List.set_set]
      rw [e9] at this
      exact this
    have hwi : ws[i]? = some (V.ref p) := f4
    cases z with
    | true =>
      refine itT ⟨.ref p, hsr, selR zs ws i, hD5, by have := selR_len zs ws i; omega, ?_⟩
      have hsx : selR zs ws (i + 1) = selR zs ws i ++ [.ref p] := by rw [selR, if_pos hz, hwi]
      obtain ⟨S7, hHD, t7⟩ := S6.unpin hE5 hE0 (fun _ z => by cases z) (fun _ _ z => by cases z) (fun k => by rw [e'.i, hI2]; exact hID k)
      obtain ⟨S8, t8⟩ := S7.pin (D := D) (o := .lst (selR zs ws i ++ [.ref p])) del_same
      have hH : upd (PD.del H' D) D (.lst (selR zs ws i ++ [.ref p])) = upd H' D (.lst (selR zs ws i ++ [.ref p])) := by
        funext b
        by_cases z : b = D
        · subst z; rw [upd_same, upd_same]
        · rw [upd_ne z, upd_ne z, del_ne z]
      rw [hH] at S8 t8
      refine ⟨hlt, ⟨G'.H0, G'.P, G'.I, G'.N, upd G.E D (.lst (selR zs ws i ++ [.ref p]))⟩, S8, ⟨l5.h0, l5.p, l5.n, l5.nn, l5.t.tr (t7.tr t8), S8.w, fun a o h => ?_⟩, ?_, e'.i.trans hI2, fun a o h => ?_⟩
      · show upd G.E D _ a = _
        rw [upd_ne (fun z => by rw [z, hE0] at h; cases h)]; exact h
      · rw [hsx]
      · rw [upd_ne (fun z => by rw [z, hD] at h; cases h)]; exact kp' a o h
    | false =>
      have hsx : selR zs ws (i + 1) = selR zs ws i := by
        rw [selR, if_neg (by rw [hz]; simp), List.append_nil]
      exact itF ⟨hlt, G', S6, l5, by rw [hsx]; exact hE5, e'.i.trans hI2, kp'⟩
  · have ei : i = ts.length := by omega
    subst ei
    refine .inl ⟨⟨ws, SqL.of hq2, by omega⟩, ?_⟩
    have hD2 : H2 D = some (.lst (selR zs ws ts.length)) := (S2.w.ex D _ (by rw [hE2, upd_same])).1
    obtain ⟨S7, hHD, t7⟩ := S2.unpin hE2 hE0 (fun _ z => by cases z) (fun _ _ z => by cases z) (fun k => by rw [hI2]; exact hID k)
    have e7 : Ext G H ⟨G2.H0, G2.P, G2.I, G2.N, G.E⟩ (PD.del H2 D) := ⟨l2.h0, l2.p, hI2, rfl, l2.n, l2.nn, l2.t.tr t7, S7.w⟩
    obtain ⟨G8, S8, e8, _⟩ := call_end (H' := H2) (N' := G2.N) S7 (fun a o h => by
      by_cases z : a = D
      · subst z; rw [del_same] at h; cases h
      · rw [del_ne z] at h; exact h) (fun a o h => ⟨(S2.w.new a o h).1, .inr h⟩)
    have S9 : Sta X.K G8 H2 σ (Γ.set r .un) := S8.swap (wipe_length ..).symm fun k => by
      by_cases e : k = r
      · subst e; exact .inr hrw
      · exact .inl (hwr k e).symm
    exact q G8 H2 D q0 ws (e7.tr e8) kp S9 hD2 g1 hq2 g3
end
end PD
set_option Elab.async false
set_option linter.all false
set_option maxRecDepth 100000
set_option maxHeartbeats 4000000
set_option autoImplicit false
namespace PD
open PySem L2
def selD (zs : List Bool) (ts : List Tre) : Nat → List PyData
  | 0 => []
  | k + 1 => selD zs ts k ++ (if zs[k]? = some true then (match ts[k]?.bind trD with | some d => [d] | none => []) else [])
def putT (zs : List Bool) (ts : List Tre) (d : PyData) : List Tre := match zs.findIdx? (fun z => z) with
  | none => ts ++ [.lst [.d d]]
  | some c => match ts[c]? with
    | some (.lst us) => ts.set c (.lst (us ++ [.d d]))
    | _ => ts
theorem selD_none {zs : List Bool} {ts : List Tre} (h : zs.findIdx? (fun z => z) = none) : ∀ k, selD zs ts k = []
  | 0 => rfl
  | k + 1 => by
    have hk : zs[k]? ≠ some true := fun e => by
      have := List.findIdx?_eq_none_iff.mp h true (List.mem_of_getElem? e)
      cases this
    rw [selD, if_neg hk, selD_none h k]; rfl
theorem sel_fst {zs : List Bool} {c : Nat} (h : zs.findIdx? (fun z => z) = some c) : zs[c]? = some true ∧ ∀ k, k < c → zs[k]? ≠ some true := by
  obtain ⟨h1, h2, h3⟩ := List.findIdx?_eq_some_iff_getElem.mp h
  refine ⟨by rw [List.getElem?_eq_getElem h1]; congr, fun k hk e => ?_⟩
  have := h3 k hk
  rw [List.getElem?_eq_getElem (by omega)] at e
  have e := Option.some.inj e
  rw [e] at this
  exact this rfl
theorem selR_some {zs : List Bool} {ws : List V} {c : Nat} {w : V} (h : zs.findIdx? (fun z => z) = some c) (hw : ws[c]? = some w) : ∀ k, (k ≤ c → selR zs ws k = []) ∧ (c < k → (selR zs ws k)[0]? = some w)
  | 0 => ⟨fun _ => rfl, fun h => absurd h (Nat.not_lt_zero _)⟩
  | k + 1 => by
    obtain ⟨i1, i2⟩ := selR_some h hw k
    obtain ⟨f1, f2⟩ := sel_fst h
    refine ⟨fun hk => ?_, fun hk => ?_⟩
    · rw [selR, if_neg (f2 k (by omega)), i1 (by omega)]; rfl
    · by_cases e : c = k
      · subst e
        rw [selR, if_pos f1, i1 (Nat.le_refl _), hw]; rfl
      · have := i2 (by omega)
        rw [selR]
        rw [List.getElem?_append_left (by
          cases hq : selR zs ws k with
          | nil => rw [hq] at this; simp at this
          | cons a b => simp)]
        exact this
theorem selD_some {zs : List Bool} {ts : List Tre} {c : Nat} {d : PyData} (h : zs.findIdx? (fun z => z) = some c) (hd : ts[c]?.bind trD = some d) {k : Nat} (hk : c < k) : selD zs ts k ≠ [] := by
  obtain ⟨f1, f2⟩ := sel_fst h
  induction k with
  | zero => omega
  | succ k ih =>
    rw [selD]
    by_cases e : c = k
    · subst e
      rw [if_pos f1, hd]
      simp
    · intro z
      exact ih (by omega) (List.append_eq_nil_iff.mp z).1
theorem eqv_nil (ds : List PyData) : PyData.eqv (.list ds) (.list []) = decide (ds = []) := by
  cases ds with
  | nil => rfl
  | cons d r => rfl
theorem Sta.rowsDn {K : PySem.W.Frag} {G : Gh} {H : Hp} {σ : St} {Γ : List Sl} {j : Nat} {ts : List Tre} (S : Sta K G H σ Γ) (hg : Γ[j]? = some (.own (.tr (.lst ts)))) : ∃ q ws, σ[j]? = some (some (V.ref q)) ∧ H q = some (.lst ws) ∧ ws.length = ts.length ∧ ∀ (c : Nat) (t : Tre) (d : PyData), ts[c]? = some t → trD t = some d → ∃ w, ws[c]? = some w ∧ Dn K (RgH H) H w d := by
  obtain ⟨v, fp, g1, ⟨g2, q, rfl, _⟩, g3, g4, g5, g6⟩ := S.cellU j false hg
  cases g2 with
  | lst h1 h2 h3 =>
    refine ⟨_, _, g1, h1, h2.length, fun c t d hc hd => ?_⟩
    obtain ⟨w, f, k1, k2⟩ := h2.at hc
    exact ⟨w, k1, TreOk.dn (G := RgN G) (fun a o z => (S.w.new a o z).1) k2 (fun a _ o z => z) d hd⟩
theorem dna_app {K : PySem.W.Frag} {G : Rg} {H : Hp} : ∀ {vs : List V} {ds : List PyData} {v : V} {d : PyData}, DnA K G H vs ds → Dn K G H v d → DnA K G H (vs ++ [v]) (ds ++ [d])
  | _, _, _, _, .nil, h => .cons h .nil
  | _, _, _, _, .cons a b, h => .cons a (dna_app b h)
theorem sel_dna {K : PySem.W.Frag} {H : Hp} {zs : List Bool} {ws : List V} {ts : List Tre} (h : ∀ (c : Nat) (t : Tre) (d : PyData), ts[c]? = some t → trD t = some d → ∃ w, ws[c]? = some w ∧ Dn K (RgH H) H w d) (hd : ∀ (c : Nat) (t : Tre), ts[c]? = some t → ∃ d, trD t = some d) : ∀ k, k ≤ ts.length → DnA K (RgH H) H (selR zs ws k) (selD zs ts k)
  | 0, _ => .nil
  | k + 1, hk => by
    have ih := sel_dna (zs := zs) h hd k (by omega)
    obtain ⟨t, ht⟩ : ∃ t, ts[k]? = some t := ⟨_, List.getElem?_eq_getElem (by omega)⟩
    obtain ⟨d, hd2⟩ := hd k t ht
    obtain ⟨w, hw, hdn⟩ := h k t d ht hd2
    rw [selR, selD]
    by_cases hz : zs[k]? = some true
    · rw [if_pos hz, if_pos hz, hw, ht]
      show DnA K (RgH H) H (selR zs ws k ++ [w]) (selD zs ts k ++ (match trD t with | some d => [d] | none => []))
      rw [hd2]
      exact dna_app ih hdn
    · rw [if_neg hz, if_neg hz, List.append_nil, List.append_nil]
      exact ih
theorem TresOk.snocT {K : PySem.W.Frag} {G : Rg} {H : Hp} {v : V} {f : List Addr} {t : Tre} (hx : TreOk K G H v f t) : ∀ {vs : List V} {fp : List Addr} {ts : List Tre}, TresOk K G H vs fp ts → (∀ p ∈ f, p ∉ fp) → TresOk K G H (vs ++ [v]) (fp ++ f) (ts ++ [t])
  | _, _, _, .nil, _ => by
    have := TresOk.cons (f1 := f) (f2 := []) hx .nil (by simp)
    rw [List.append_nil] at this
    exact this
  | _, _, _, .cons (f1 := f1) (f2 := f2) h a n, hd => by
    have := TresOk.cons (f1 := f1) (f2 := f2 ++ f) h (TresOk.snocT hx a fun p hp hq => hd p hp (List.mem_append_right _ hq)) fun p hp hq => by
      rcases List.mem_append.mp hq with z | z
      · exact n p hp z
      · exact hd p z (List.mem_append_left _ hp)
    rw [← List.append_assoc] at this
    exact this
theorem Sta.trlNew {K : PySem.W.Frag} {G : Gh} {H : Hp} {σ : St} {Γ : List Sl} {j : Nat} {ts : List Tre} (S : Sta K G H σ Γ) (hg : Γ[j]? = some (.own (.tr (.lst ts)))) {L : Addr} (hL : H L = none) {v : V} {d : PyData} (hv : Dn K (RgN G) H v d) :
    ∃ q ws, σ[j]? = some (some (V.ref q)) ∧ H q = some (.lst ws) ∧ ws.length = ts.length ∧ ∃ G', Sta K G' (upd (upd H L (.lst [v])) q (.lst (ws ++ [.ref L]))) σ (Γ.set j (.own (.tr (.lst (ts ++ [.lst [.d d]]))))) ∧ Ext G H G' (upd (upd H L (.lst [v])) q (.lst (ws ++ [.ref L]))) := by
  obtain ⟨w, fp, g1, ⟨g2, q, rfl, _⟩, g3, g4, g5, g6⟩ := S.cellU j false hg
  cases g2 with
  | lst h1 h2 h3 =>
    rename_i ws fr hor
    refine ⟨q, ws, g1, h1, h2.length, ?_⟩
    have hLq : L ≠ q := fun e => by rw [e, h1] at hL; cases hL
    have hLf : L ∉ fr := fun e => g3 L (List.mem_cons_of_mem _ e) hL
    have hN : ∀ a o, G.N a = some o → a ≠ q := fun a o e z => g4 true a o e (z ▸ by simp)
    have hNL : ∀ a o, G.N a = some o → a ≠ L := fun a o e z => by
      have := (S.w.new a o e).1
      rw [z, hL] at this; cases this
    let H' : Hp := upd (upd H L (.lst [v])) q (.lst (ws ++ [.ref L]))
    have hq' : H' q = some (.lst (ws ++ [.ref L])) := upd_same
    have hL' : H' L = some (.lst [v]) := by show upd (upd H L _) q _ L = _; rw [upd_ne hLq, upd_same]
    have ho : ∀ a, a ≠ q → a ≠ L → H' a = H a := fun a h1 h2 => by show upd (upd H L _) q _ a = _; rw [upd_ne h1, upd_ne h2]
    have t : TupLe H H' := fun a xs e => by
      rw [ho a (fun z => by rw [z, h1] at e; cases e) (fun z => by rw [z, hL] at e; cases e)]; exact e
    have k6 : TresOk K (RgN G) H' ws fr ts := TresOk.mono (fun _ _ z => z) t h2 fun a ha => ho a (fun e => h3 (e ▸ ha)) (fun e => hLf (e ▸ ha))
    have hv' : Dn K (RgN G) H' v d := hv.mono (fun _ _ z => z) t
    have hrow : TreOk K (RgN G) H' (.ref L) [L] (.lst [.d d]) := .lst hL' (.cons (f1 := []) (f2 := []) (.d hv') .nil (by simp)) (by simp)
    have hall : TresOk K (RgN G) H' (ws ++ [.ref L]) (fr ++ [L]) (ts ++ [.lst [.d d]]) := TresOk.snocT hrow k6 fun p hp => by rw [List.mem_singleton.mp hp]; exact hLf
    have ne : ∀ a ∈ q :: (fr ++ [L]), H' a ≠ none := fun a ha => by
      by_cases z1 : a = q
      · rw [z1, hq']; simp
      · by_cases z2 : a = L
        · rw [z2, hL']; simp
        · rw [ho a z1 z2]
          rcases List.mem_cons.mp ha with z | z
          · exact absurd z z1
          · rcases List.mem_append.mp z with z | z
            · exact g3 a (List.mem_cons_of_mem _ z)
            · exact absurd (List.mem_singleton.mp z) z2
    have nN : ∀ a ∈ q :: (fr ++ [L]), G.N a = none := fun a ha => by
      cases e : G.N a with
      | none => rfl
      | some o =>
        rcases List.mem_cons.mp ha with z | z
        · exact absurd z (hN a o e)
        · rcases List.mem_append.mp z with z | z
          · exact absurd (List.mem_cons_of_mem _ z) (g4 true a o e)
          · exact absurd (List.mem_singleton.mp z) (hNL a o e)
    obtain ⟨G', S', e', _⟩ := g6 H' G.N (q :: (fr ++ [L])) (.tr (.lst (ts ++ [.lst [.d d]]))) (fun a o e hp => by
      by_cases z2 : a = L
      · rw [z2, hL] at e; cases e
      · rw [ho a (fun z => hp (by rw [z]; exact List.mem_cons_self ..)) z2]; exact e) (fun a ha => by
      rcases List.mem_cons.mp ha with z | z
      · rw [z, hq']; simp
      · exact ne a (List.mem_cons_of_mem _ (List.mem_append_left _ z))) t (fun a o e => ⟨by rw [ho a (hN a o e) (hNL a o e)]; exact (S.w.new a o e).1, .inr e⟩) ⟨.lst hq' hall (fun hm => by
      rcases List.mem_append.mp hm with z | z
      · exact h3 z
      · exact hLq (List.mem_singleton.mp z).symm), q, rfl, .inl (by simp)⟩ (fun a ha => ⟨ne a ha, nN a ha, by
      rcases List.mem_cons.mp ha with z | z
      · exact .inl (by rw [z]; simp)
      · rcases List.mem_append.mp z with z | z
        · exact .inl (List.mem_cons_of_mem _ z)
        · exact .inr (by rw [List.mem_singleton.mp z]; exact hL)⟩)
    exact ⟨G', S', e'⟩
end PD
set_option Elab.async false
set_option linter.all false
set_option maxRecDepth 100000
set_option maxHeartbeats 4000000
set_option autoImplicit false
namespace PD
open PySem L2
def bThere (i j r mk : Nat) (m : List Ar → R (Rs × List Sl)) (ms : List Bool) (as : List Atm) : DS := fun Γ => match Γ[j]?, Γ[mk]? with
  | some (.own (.tr (.lst ts))), some (.dat _ (.int n)) => match selB m (Γ.set r .un) r ms as ts with
    | some zs => (R.req (decide (i ≠ j ∧ r ≠ j ∧ i ≠ r ∧ mk ≠ i ∧ mk ≠ r ∧ i < Γ.length ∧ r < Γ.length) && (decide (ts.length < sizeLine) && (ts.all (fun t => lsOk t && (trD t).isSome) && SeqAt.shaped (.list (selD zs ts ts.length)))))).bind fun _ => .val (.nx, ((Γ.set r .un).set i .un).set j (.own (.tr (.lst (putT zs ts (.int n))))))
    | none => .bad
  | _, _ => .bad
section
variable {X : Cx} {W : WX} {sc : Scope} {N : List Str} {x y z n : Str} {m : List Ar → R (Rs × List Sl)} {r j i mk : Nat} {ms : List Bool} {as : List Atm} {cond : Expr} {scope : Scope} {own : List (Str × Nat)} {ss : List Stmt} {b : DS}
theorem cs_there (C : Cf X W sc N) (hk : sc.kind = .function) (ms : List Bool)
    {px py pz pz2 pos spos qy qe cp0 ax an apos acpos ael aepos by0 bc bsub bn bpos bcpos bepos ipos : Pos} {kk : Nat}
    (hNj : N[j]? = some x) (hvj : visB sc x = true) (hNi : N[i]? = some y) (hvi : visB sc y = true) (hyi : lclB sc y = true) (hNk : N[mk]? = some n) (hvk : visB sc n = true)
    (ok : blkC N sc scope own = true) (ho : own.map (·.2) = [r])
    (hg : ∀ (s : Shared) (H : Hp) (c : Addr) (cl : List (Str × Addr)) (fp : List Addr), PG (X.blk s H scope (compEnvC scope cl c X.env) fp) (.Name z pz) (gName r))
    (ht : ∀ (s : Shared) (H : Hp) (c : Addr) (cl : List (Str × Addr)) (fp : List Addr), PT (X.blk s H scope (compEnvC scope cl c X.env) fp) cond (tB (tQ X m (fun σ cls d H => WF cls d σ H) as)))
    (he : ∀ (s : Shared) (H : Hp) (c : Addr) (cl : List (Str × Addr)) (fp : List Addr), PE (X.blk s H scope (compEnvC scope cl c X.env) fp) (.Name z pz2) (tVar r))
    (hr : CS X W ss b)
    (hd1 : (x == ("__debug__" : Str)) = false := by decide +kernel) (hcd1 : (x == ("__classdict__" : Str)) = false := by decide +kernel)
    (hd2 : (y == ("__debug__" : Str)) = false := by decide +kernel) (hcd2 : (y == ("__classdict__" : Str)) = false := by decide +kernel)
    (hd3 : (n == ("__debug__" : Str)) = false := by decide +kernel) (hcd3 : (n == ("__classdict__" : Str)) = false := by decide +kernel)
    (hl : (py.line == pos.line) = true := by rfl) (hnn : (scope.names.any fun (n, k) => n == y && (k == .local || k == .cell)) = false := by decide +kernel)
    (hs : ∀ q, foldedSetIterable (.Name x px) X.env q = pure q := by intro _; rfl)
    (hline1 : (apos.endLine == acpos.line) = true := by rfl) (hline2 : (bpos.endLine == bcpos.line) = true := by rfl)
    (hbase1 : attributeBase (.Name x ax) "append" X.env (eval (.Name x ax) X.env) = eval (.Name x ax) X.env := by rfl)
    (hbase2 : attributeBase (.Subscript (.Name y by0) (.Constant (.int 0) kk bc) bsub) "append" X.env (eval (.Subscript (.Name y by0) (.Constant (.int 0) kk bc) bsub) X.env) = eval (.Subscript (.Name y by0) (.Constant (.int 0) kk bc) bsub) X.env := by rfl)
    (hs1 : starEach [.List [.Name n an] ael] X.env = (false, eval (.List [.Name n an] ael) X.env) :: starEach [] X.env := by rfl)
    (hs1' : starEach [.Name n an] X.env = (false, eval (.Name n an) X.env) :: starEach [] X.env := by rfl)
    (hs2 : starEach [.Name n bn] X.env = (false, eval (.Name n bn) X.env) :: starEach [] X.env := by rfl)
    (hix : PlainIx (.Constant (.int (0 : Int)) kk bc) := by exact fun _ _ => rfl)
    (hsw1 : swapsWith (.Call (.Attribute (.Name x ax) "append" apos) [.List [.Name n an] ael] [] acpos) none aepos.line X.env = pure false := by rfl)
    (hsw2 : swapsWith (.Call (.Attribute (.Subscript (.Name y by0) (.Constant (.int 0) kk bc) bsub) "append" bpos) [.Name n bn] [] bcpos) none bepos.line X.env = pure false := by rfl) :
    CS X W (.Assign [.Name y py] (.ListComp (.Name z pz2) [⟨.Name z pz, .Name x px, [cond], 0⟩] scope pos) spos ::
      .If (.Compare (.Name y qy) [.Eq] [.List [] qe] cp0) [.Expr (.Call (.Attribute (.Name x ax) "append" apos) [.List [.Name n an] ael] [] acpos) aepos] [.Expr (.Call (.Attribute (.Subscript (.Name y by0) (.Constant (.int 0) kk bc) bsub) "append" bpos) [.Name n bn] [] bcpos) bepos] ipos :: ss)
      (bSeq (bThere i j r mk m ms as) b) := fun Γ => by
  have hB : BlkOk X.N X.env.scope scope own := by rw [C.hN, C.hsc]; exact blkOk_by ok
  have hyl : X.env.scope.names.lookup y = some .local := by
    rw [C.hsc]
    unfold lclB at hyi
    split at hyi
    · assumption
    · cases hyi
  have vx : ∀ {p : Pos}, PE X (.Name x p) (tVar j) := fun {p} => pe_var (by rw [C.hN]; exact hNj) (by rw [C.hsc]; exact vis_of hvj) hd1 hcd1
  have vy : ∀ {p : Pos}, PE X (.Name y p) (tVar i) := fun {p} => pe_var (by rw [C.hN]; exact hNi) (by rw [C.hsc]; exact vis_of hvi) hd2 hcd2
  have vn : ∀ {p : Pos}, PE X (.Name n p) (tVar mk) := fun {p} => pe_var (by rw [C.hN]; exact hNk) (by rw [C.hsc]; exact vis_of hvk) hd3 hcd3
  refine pss_imp (pss_cons (ps_setLc (g := gName r) (tt := tB (tQ X m (fun σ cls d H => WF cls d σ H) as)) (te := tVar r) C.calm (by rw [C.hN]; exact C.nd) (by rw [C.hN]; exact hNi) hyl (sw_true (by rw [C.hsc]; exact hk) hyl hl hnn) (pi_list vx) hB hg (fun s H c cl fp => pts_one (ht s H c cl fp)) he hs)
    (pss_cons (ps_if (pt_cmpR (op_eqD C.hu) vy (pe_lst pa_nil) (by first | exact nobehind _ (by decide) (by decide) | rfl))
      (pss_one (ps_expr (pe_bm PySem.F.plainAttrs_list PySem.F.slot_list_append PySem.F.type_list_append mt_append vx (pa_cons (pe_lst (pa_cons vn pa_nil hs1')) pa_nil hs1) hbase1 (by rw [hs1]; rfl) hline1 hs1 rfl) hsw1))
      (pss_one (ps_expr (pe_bm PySem.F.plainAttrs_list PySem.F.slot_list_append PySem.F.type_list_append mt_append (pe_ix ix_list vy pe_int hix) (pa_cons vn pa_nil hs2) hbase2 (by rw [hs2]; rfl) hline2 hs2 rfl) hsw2)))
    (pss_any fun Γ1 => hr Γ1))) fun D σ H ⟨G, S, p⟩ => ?_
  have p0 : Pst X W G H σ ((bThere i j r mk m ms as Γ).bind fun z => match z.1 with | .nx => b z.2 | w => .val (w, z.2)) (fun z G' H' => FinU X.K G' H' D z.2 z.1) := p
  have hb : (∃ ts t0 fr zs, Γ[j]? = some (.own (.tr (.lst ts))) ∧ Γ[mk]? = some (.dat fr (.int t0)) ∧ selB m (Γ.set r .un) r ms as ts = some zs ∧ (decide (i ≠ j ∧ r ≠ j ∧ i ≠ r ∧ mk ≠ i ∧ mk ≠ r ∧ i < Γ.length ∧ r < Γ.length) && (decide (ts.length < sizeLine) && (ts.all (fun t => lsOk t && (trD t).isSome) && SeqAt.shaped (.list (selD zs ts ts.length))))) = true ∧ bThere i j r mk m ms as Γ = .val (.nx, ((Γ.set r .un).set i .un).set j (.own (.tr (.lst (putT zs ts (.int t0))))))) ∨ bThere i j r mk m ms as Γ = .bad := by
    unfold bThere
    split
    · rename_i ts fr t0 h1 h2
      split
      · rename_i zs h3
        cases hc : (decide (i ≠ j ∧ r ≠ j ∧ i ≠ r ∧ mk ≠ i ∧ mk ≠ r ∧ i < Γ.length ∧ r < Γ.length) && (decide (ts.length < sizeLine) && (ts.all (fun t => lsOk t && (trD t).isSome) && SeqAt.shaped (.list (selD zs ts ts.length))))) with
        | true => exact .inl ⟨ts, t0, fr, zs, h1, h2, h3, hc, by rfl⟩
        | false => exact .inr (by rfl)
      · exact .inr rfl
    · exact .inr rfl
  rcases hb with ⟨ts, t0, fr, zs, hj, hmk, hsel, hc, hv⟩ | hbad
  · rw [hv] at p0
    have p1 : Pst X W G H σ (b (((Γ.set r .un).set i .un).set j (.own (.tr (.lst (putT zs ts (.int t0))))))) (fun z G' H' => FinU X.K G' H' D z.2 z.1) := p0
    simp only [Bool.and_eq_true] at hc
    obtain ⟨hne, hsz, hrows, hsh⟩ := hc
    obtain ⟨hij, hrj, hir, hmi, hmr, hil, hrl⟩ := of_decide_eq_true hne
    have hsz := of_decide_eq_true hsz
    have hrows := List.all_eq_true.mp hrows
    have hjl : j < Γ.length := (List.getElem?_eq_some_iff.mp hj).1
    have hmj : mk ≠ j := fun e => by rw [e, hj] at hmk; cases hmk
    suffices hx : tLc (iList X.K (tVar j)) (gName r) (tB (tQ X m (fun σ cls d H => WF cls d σ H) as)) (tVar r) (own.map (·.2)) σ H (fun x H1 => gName i x σ H1 (tSeq (tIfS (tTest (tOp (rEqD X.K) (tVar i) (tLst tNil))) (tDrop (tBM X.K "list" rAppend (tVar j) (tCons (tLst (tCons (tVar mk) tNil)) tNil))) (tDrop (tBM X.K "list" rAppend (tOp (rIxL X.K) (tVar i) (tC (V.int 0))) (tCons (tVar mk) tNil)))) (fun D σ H => ∃ x, rdB X W x (b x) D σ H) D)) from hx
    rw [ho]
    refine there_loop S hj hrj hrl hsel (Nat.le_of_lt hsz) ?_
    intro G2 H2 Da q ws e2 kp S2 hD hσj hq hwl
    have hlen : Γ.length = σ.length := by
      obtain ⟨A, SA⟩ := id S
      exact SA.len
    have S3 : Sta X.K G2 H2 (σ.set i (some (.ref Da))) ((Γ.set r .un).set i .un) := S2.blank i _
    have hσi : (σ.set i (some (V.ref Da)))[i]? = some (some (.ref Da)) := List.getElem?_set_self (by omega)
    have hσj3 : (σ.set i (some (V.ref Da)))[j]? = some (some (.ref q)) := by rw [List.getElem?_set_ne hij]; exact hσj
    have hj3 : ((Γ.set r .un).set i .un)[j]? = some (.own (.tr (.lst ts))) := by rw [List.getElem?_set_ne hij, List.getElem?_set_ne hrj]; exact hj
    have hm3 : ((Γ.set r .un).set i .un)[mk]? = some (.dat fr (.int t0)) := by rw [List.getElem?_set_ne (Ne.symm hmi), List.getElem?_set_ne (Ne.symm hmr)]; exact hmk
    refine ⟨.ref Da, hσi, Nat.zero_le _, fun L0 hL0 => ?_⟩
    obtain ⟨G4, S4, e4, _⟩ := call_end (H' := upd H2 L0 (.lst [])) (N' := G2.N) S3 (fun a o h => by
      rw [upd_ne (fun z => by rw [z, hL0] at h; cases h)]; exact h) (fun a o h => ⟨by
      have h9 := (S3.w.new a o h).1
      rw [upd_ne (fun z => by rw [z, hL0] at h9; cases h9)]; exact h9, .inr h⟩)
    have hD3 : upd H2 L0 (.lst []) Da = some (.lst (selR zs ws ts.length)) := by rw [upd_ne (fun z => by rw [z, hL0] at hD; cases hD)]; exact hD
    have hq3 : upd H2 L0 (.lst []) q = some (.lst ws) := by rw [upd_ne (fun z => by rw [z, hL0] at hq; cases hq)]; exact hq
    have hmv : (σ.set i (some (V.ref Da)))[mk]? = some (some (.int t0)) := by
      obtain ⟨A, SA⟩ := id S4
      obtain ⟨_, v, h1, h2⟩ := SA.sl mk _ hm3
      cases h2
      exact h1
    obtain ⟨q', ws', f1, f2, f3, f4⟩ := S4.rowsDn hj3
    rw [hσj3] at f1
    cases f1
    rw [hq3] at f2
    cases f2
    have hdna : DnA X.K (RgH (upd H2 L0 (.lst []))) (upd H2 L0 (.lst [])) (selR zs ws ts.length) (selD zs ts ts.length) := sel_dna f4 (fun c t hct => by
      have := hrows t (List.mem_of_getElem? hct)
      rw [Bool.and_eq_true] at this
      exact Option.isSome_iff_exists.mp this.2) _ (Nat.le_refl _)
    refine ⟨.list (selD zs ts ts.length), .list [], Dn.dps (Dn.lst (.inl hD3) hdna) hsh, Dn.dps (Dn.lst (.inl upd_same) .nil) rfl, hsh, rfl, _, rfl, ?_⟩
    rw [eqv_nil]
    cases hf : zs.findIdx? (fun z => z) with
    | none =>
      rw [selD_none hf, decide_eq_true rfl]
      refine itT ?_
      refine ⟨.ref q, hσj3, .inl ⟨rfl, ws, SqL.of hq3⟩, .int t0, hmv, ?_, fun L1 hL1 => ?_⟩
      · have : (1 : Nat) ≤ sizeLine := by decide
        exact this
      obtain ⟨q', ws', f1, f2, f3, G5, S5, e5⟩ := S4.trlNew hj3 hL1 (v := .int t0) (d := .int t0) (.int _)
      rw [hσj3] at f1
      cases f1
      rw [hq3] at f2
      cases f2
      refine ⟨q, ws, .ref L1, rfl, rfl, ?_, by omega, ?_⟩
      · rw [upd_ne (fun z => by rw [z, hL1] at hq3; cases hq3)]; exact hq3
      have hput : putT zs ts (.int t0) = ts ++ [.lst [.d (.int t0)]] := by unfold putT; rw [hf]
      rw [hput] at p1
      exact ⟨_, G5, S5, Pst.ext p1 (e2.tr (e4.tr e5))⟩
    | some c =>
      obtain ⟨z1, z2⟩ := sel_fst hf
      obtain ⟨zl, zat⟩ := selB_at hsel
      have hcl : c < ts.length := by rw [← zl]; exact (List.getElem?_eq_some_iff.mp z1).1
      obtain ⟨t, htc⟩ : ∃ t, ts[c]? = some t := ⟨_, List.getElem?_eq_getElem hcl⟩
      obtain ⟨x0, us, _, _, _, rfl, _, _, _⟩ := zat c t htc
      have hrow := hrows _ (List.mem_of_getElem? htc)
      rw [Bool.and_eq_true] at hrow
      obtain ⟨d0, hd0⟩ := Option.isSome_iff_exists.mp hrow.2
      have hdn : selD zs ts ts.length ≠ [] := selD_some hf (d := d0) (by rw [htc]; exact hd0) hcl
      rw [decide_eq_false hdn]
      refine itF ?_
      obtain ⟨q', ws', p, vs, f1, f2, f3, f4, f5, f6, f7⟩ := S4.trlAt hj3 htc
      rw [hσj3] at f1
      cases f1
      rw [hq3] at f2
      cases f2
      have hsel0 := (selR_some hf f4 ts.length).2 hcl
      obtain ⟨G5, S5, e5⟩ := f7 (.int t0) (.int t0) (.int _)
      have hlsz : ltS (.d x0 :: us) = true := hrow.1
      refine ⟨.ref Da, hσi, Da, selR zs ws ts.length, (0 : Int), .ref p, rfl, rfl, SqL.of hD3, at_natV (c := 0) hsel0, .inl ⟨rfl, vs, SqL.of f5⟩, .int t0, hmv, p, vs, .int t0, rfl, rfl, f5, by rw [f6]; exact of_decide_eq_true hlsz, ?_⟩
      have hput : putT zs ts (.int t0) = ts.set c (.lst ((.d x0 :: us) ++ [.d (.int t0)])) := by unfold putT; rw [hf]; simp only [htc]
      rw [hput] at p1
      exact ⟨_, G5, S5, Pst.ext p1 (e2.tr (e4.tr e5))⟩
  · rw [hbad] at p0
    exact p0.elim
end
end PD
set_option Elab.async false
set_option linter.all false
set_option maxRecDepth 100000
set_option maxHeartbeats 4000000
set_option autoImplicit false
namespace PD
open PySem L2
section
variable {X : Cx} {W : WX} {sc : Scope} {N : List Str} {e : Expr} {es : List Expr} {as : List Atm} {x : Str} {p pos : Pos} {m : List Ar → R (Rs × List Sl)}
theorem pt_q (C : Cf0 X W sc N) (hc : Clee X x [] (spU X.K X.mg m)) (hg : glB sc x = true) (ha : CAt X (e :: es) as)
    (hdb : (x == ("__debug__" : Str)) = false := by decide +kernel) (he : starEach (e :: es) X.env = (false, eval e X.env) :: starEach es X.env := by rfl) (hpl : (backTo pos (starEach es X.env)).any (·.1) = false := by rfl)
    (ht : ∀ whole, isTrue (.Call (.Name x p) (e :: es) [] pos) X.env whole = (do let v ← whole; standAt (Expr.Call (.Name x p) (e :: es) [] pos).pos; holding [v] (truthy v)) := by intro _; rfl) : PT X (.Call (.Name x p) (e :: es) [] pos) (tB (tQ X m (fun σ cls d H => W cls d σ H) as)) := by
  obtain ⟨k', f, fd, ps, dss, F, hr, hm, hk, hb, hd⟩ := hc
  exact pt_val (pe_callSD (E := fun σ cls d H => W cls d σ H) F hr (C.gl hg) hm hk hb hd (fun σ => passAt C.tk σ) ha hdb he hpl) ht
theorem pg_nm (C : Cf0 X W sc N) (i : Nat) (hN : N[i]? = some x) (hv : Sto X sc x) : PG X (.Name x p) (gName i) := C.pg hN hv
theorem pe_nmV (C : Cf0 X W sc N) (i : Nat) (hN : N[i]? = some x) (hv : visB sc x = true) (hd : (x == ("__debug__" : Str)) = false := by decide +kernel) (hcd : (x == ("__classdict__" : Str)) = false := by decide +kernel) : PE X (.Name x p) (tVar i) := pe_var (by rw [C.hN]; exact hN) (by rw [C.hsc]; exact vis_of hv) hd hcd
def nT0 : DC := fun Γ => .val (.tr (.lst []), Γ)
theorem cc_t0 : CC X W (.List [] pos) nT0 := fun Γ =>
  pe_imp (pe_lst pa_nil) fun σ H Q ⟨G, S, q⟩ => ⟨Nat.zero_le _, fun p hp => q G H (Ext.rf S.w) _ _ S ⟨[p], fun a h => upd_ne (by simpa using h), fun a ha => by
    have : a = p := by simpa using ha
    subst this
    exact ⟨hp, by rw [upd_same]; simp⟩, .lst upd_same .nil (by simp), p, rfl, .inl (by simp)⟩⟩
end
end PD
set_option Elab.async false
set_option linter.all false
set_option maxRecDepth 100000
set_option maxHeartbeats 0
namespace PDW
open PySem PySem.Spec PyProof.Rows L2 PD
def top (i : Nat) : Stmt := PySem.Challenge.pw_badbegins_k23_makes_that_are_alike.main.body.getD i (.Pass ⟨0, 0, 0, 0⟩)
def dd0 : He.DefD := ⟨("law", none), "law", "law", defArgs (top 19), defBody (top 19), defScope (top 19), [], []⟩
def dd1 : He.DefD := ⟨("_law_net", none), "_law_net", "_law_net", defArgs (top 12), defBody (top 12), defScope (top 12), [], []⟩
def dd2 : He.DefD := ⟨("_law_draw", none), "_law_draw", "_law_draw", defArgs (top 10), defBody (top 10), defScope (top 10), [], []⟩
def dd3 : He.DefD := ⟨("_law_is_elder", none), "_law_is_elder", "_law_is_elder", defArgs (top 11), defBody (top 11), defScope (top 11), [], []⟩
def dd4 : He.DefD := ⟨("_law_deck", none), "_law_deck", "_law_deck", defArgs (top 9), defBody (top 9), defScope (top 9), [], []⟩
def dd5 : He.DefD := ⟨("_law_reach", none), "_law_reach", "_law_reach", defArgs (top 13), defBody (top 13), defScope (top 13), [], []⟩
def dd6 : He.DefD := ⟨("_law_makes", none), "_law_makes", "_law_makes", defArgs (top 14), defBody (top 14), defScope (top 14), [], []⟩
def dd7 : He.DefD := ⟨("_law_barred", none), "_law_barred", "_law_barred", defArgs (top 16), defBody (top 16), defScope (top 16), [], []⟩
def dd8 : He.DefD := ⟨("_law_classes", none), "_law_classes", "_law_classes", defArgs (top 18), defBody (top 18), defScope (top 18), [], []⟩
def dd9 : He.DefD := ⟨("_law_alike", none), "_law_alike", "_law_alike", defArgs (top 17), defBody (top 17), defScope (top 17), [], []⟩
def dd10 : He.DefD := ⟨("classes", none), "classes", "classes", defArgs (top 7), defBody (top 7), defScope (top 7), [.non], []⟩
def dd11 : He.DefD := ⟨("some_of", none), "some_of", "some_of", defArgs (top 4), defBody (top 4), defScope (top 4), [], []⟩
def dd12 : He.DefD := ⟨("bits_of", none), "bits_of", "bits_of", defArgs (top 1), defBody (top 1), defScope (top 1), [], []⟩
def dd13 : He.DefD := ⟨("makes_in", none), "makes_in", "makes_in", defArgs (top 3), defBody (top 3), defScope (top 3), [], []⟩
def dd14 : He.DefD := ⟨("mask_of", none), "mask_of", "mask_of", defArgs (top 2), defBody (top 2), defScope (top 2), [], []⟩
def dd15 : He.DefD := ⟨("is_in", none), "is_in", "is_in", defArgs (top 5), defBody (top 5), defScope (top 5), [], []⟩
def dd16 : He.DefD := ⟨("_law_same", none), "_law_same", "_law_same", defArgs (top 15), defBody (top 15), defScope (top 15), [], []⟩
def fnD : List He.DefD := [dd0, dd1, dd2, dd3, dd4, dd5, dd6, dd7, dd8, dd9, dd10, dd11, dd12, dd13, dd14, dd15, dd16]
def faD : List He.Fa := ([.glo "law", .glo "_law_net", .glo "_law_draw", .glo "_law_is_elder", .glo "_law_deck", .glo "_law_reach", .glo "_law_makes", .glo "_law_barred", .glo "_law_classes", .glo "_law_alike", .glo "classes", .glo "some_of"] : List He.Fa) ++ ([.glo "bits_of", .glo "makes_in", .glo "mask_of", .glo "is_in", .glo "_law_same", .free "int", .free "range", .free "tuple", .free "len", .free "enumerate", .free "zip", .free "max"] : List He.Fa) ++ ([.free "min", .free "list", .free "sorted", .free "set", .free "isinstance", .free "all", .free "str", .free "bool"] : List He.Fa)
abbrev RR : PySem.W.OpenRow := PySem.W.OpenLaw.row PySem.Challenge.rw_badbegins_k23_makes_that_are_alike
abbrev hkD : PySem.W.Hook := He.hookD 4 faD fnD
def obD (z : PySem.W.SharedT) : He.AlD := He.obsDG 4 faD fnD (HandSHeadRun.getT z)
theorem obD_eq (z : PySem.W.SharedT) : obD z = hkD.obs z.abs := He.obsDG_eq (HandSHeadRun.getT_eq z)
def looseD : List Str := (["bits_of", "mask_of", "makes_in", "some_of", "is_in", "classes", "_law_deck", "_law_draw", "_law_is_elder", "_law_net", "_law_reach", "_law_makes"] : List Str) ++ (["_law_same", "_law_barred", "_law_alike", "_law_classes"] : List Str)
theorem runD (w : World) : HandSHeadRun.RunEq RR (PySem.W.view RR.prog [19]) hkD obD 4000 looseD w := by
  intro os
  kernel_rfl
end PDW
set_option linter.all false
set_option maxRecDepth 100000
set_option autoImplicit false
namespace PD
open PySem L2
def Ok {α : Type} (m : R α) (P : α → Prop) : Prop := ∃ a, m = .val a ∧ P a
section
variable {α β : Type} {P : α → Prop} {Q : β → Prop}
theorem ok_val {a : α} (h : P a) : Ok (.val a) P := ⟨a, rfl, h⟩
theorem ok_bind {m : R α} {k : α → R β} (h : Ok m P) (hk : ∀ a, P a → Ok (k a) Q) : Ok (m.bind k) Q := by
  obtain ⟨a, rfl, p⟩ := h
  exact hk a p
theorem Ok.mono {P' : α → Prop} {m : R α} (h : Ok m P) (hk : ∀ a, P a → P' a) : Ok m P' := by
  obtain ⟨a, e, p⟩ := h
  exact ⟨a, e, hk a p⟩
theorem ok_of {m : R α} {a : α} (h : m = .val a) (p : P a) : Ok m P := ⟨a, h, p⟩
theorem ok_eq {m : R α} {a : α} (h : Ok m fun z => z = a) : m = .val a := by
  obtain ⟨b, e, rfl⟩ := h
  exact e
end
theorem bind_val {α β : Type} (a : α) (k : α → R β) : (R.val a).bind k = k a := rfl
theorem req_true : R.req true = .val () := rfl
theorem ofO_some {α : Type} (a : α) : R.ofO (some a) = .val a := rfl
theorem gq_of {α : Type} {c : Bool} (a : α) (h : c = true) : gq c a = .val a := by subst h; rfl
theorem ok_loopU {is : List Nat} {g : DG} {fr : Bool} {b : DS} {Post : Fw × List Sl → Prop} (Inv : Nat → List Sl → Prop) (ds : List PyData) {Γ : List Sl} (h0 : Inv 0 (wipeG Γ is))
    (hb : ∀ i d Γ, ds[i]? = some d → Inv i Γ → ∃ Γ1, g fr d Γ = some Γ1 ∧ Ok (b Γ1) fun z => match z.1 with
      | .nx => Inv (i + 1) (wipeG z.2 is)
      | .ct => Inv (i + 1) (wipeG z.2 is)
      | .bk => Post (.nx, wipeG z.2 is)
      | .rt r => Post (.rt r, z.2)) (hd : ∀ Γ, Inv ds.length Γ → Post (.nx, Γ)) : Ok (loopU is g fr b ds Γ) Post := by
  have key : ∀ (n : Nat) (xs : List PyData) (Γ : List Sl), (∀ j, xs[j]? = ds[n + j]?) → n + xs.length = ds.length → Inv n (wipeG Γ is) → Ok (loopU is g fr b xs Γ) Post := by
    intro n xs
    induction xs generalizing n with
    | nil =>
      intro Γ _ hl h
      unfold loopU
      refine ok_val (hd _ ?_)
      have : ds.length = n := by simpa using hl.symm
      rw [this]; exact h
    | cons d xs ih =>
      intro Γ hx hl h
      unfold loopU
      obtain ⟨Γ1, e1, o⟩ := hb n d _ (by have := hx 0; simpa using this.symm) h
      rw [e1, ofO_some, bind_val]
      refine ok_bind o fun z hz => ?_
      obtain ⟨w, Γ2⟩ := z
      have hx' : ∀ j, xs[j]? = ds[n + 1 + j]? := fun j => by
        have := hx (j + 1)
        simp only [List.getElem?_cons_succ] at this
        rw [this]; congr 1; omega
      cases w with
      | nx => exact ih (n + 1) Γ2 hx' (by simp at hl; omega) hz
      | ct => exact ih (n + 1) Γ2 hx' (by simp at hl; omega) hz
      | bk => exact ok_val hz
      | rt r => exact ok_val hz
  exact key 0 ds Γ (fun j => by simp) (by simp) h0
theorem ok_loopW {is : List Nat} {c : DT} {b : DS} {Post : Fw × List Sl → Prop} (Inv : Nat → List Sl → Prop)
    (hb : ∀ n Γ, Inv n Γ → Ok (c Γ) fun x => if x.1 then Ok (b x.2) fun z => match z.1 with
      | .nx => ∃ m, m < n ∧ Inv m (wipeG z.2 is)
      | .ct => ∃ m, m < n ∧ Inv m (wipeG z.2 is)
      | .bk => Post (.nx, wipeG z.2 is)
      | .rt r => Post (.rt r, z.2) else Post (.nx, x.2)) : ∀ (fuel n : Nat) (Γ : List Sl), n < fuel → Inv n (wipeG Γ is) → Ok (loopW is c b fuel Γ) Post := by
  intro fuel
  induction fuel with
  | zero => intro n Γ h; omega
  | succ f ih =>
    intro n Γ hn h
    unfold loopW
    refine ok_bind (hb n _ h) fun x hx => ?_
    by_cases e : x.1 = true
    · rw [if_pos e] at hx ⊢
      refine ok_bind hx fun z hz => ?_
      obtain ⟨w, Γ2⟩ := z
      cases w with
      | nx => obtain ⟨m, h1, h2⟩ := hz; exact ih m Γ2 (by omega) h2
      | ct => obtain ⟨m, h1, h2⟩ := hz; exact ih m Γ2 (by omega) h2
      | bk => exact ok_val hz
      | rt r => exact ok_val hz
    · rw [if_neg e] at hx ⊢
      exact ok_val hx
theorem ok_compU {vs : List Nat} {g : DG} {fr : Bool} {t : DT} {e : DF} {Post : List PyData × List Sl → Prop} (Inv : Nat → List PyData → List Sl → Prop) (ds : List PyData) {Γ : List Sl} (h0 : Inv 0 [] Γ)
    (hb : ∀ i d out Γ, ds[i]? = some d → Inv i out Γ → ∃ Γ1, g fr d Γ = some Γ1 ∧ Ok (t Γ1) fun x => if x.1 then Ok (e x.2) fun y => ∃ o, avD y.1 = some o ∧ Inv (i + 1) (out ++ [o]) (wipeG y.2 vs) else Inv (i + 1) out (wipeG x.2 vs))
    (hd : ∀ out Γ, Inv ds.length out Γ → Post (out, Γ)) : Ok (compU vs g fr t e ds Γ) Post := by
  have key : ∀ (n : Nat) (xs : List PyData) (pre : List PyData) (Γ : List Sl), (∀ j, xs[j]? = ds[n + j]?) → n + xs.length = ds.length → Inv n pre Γ → Ok (compU vs g fr t e xs Γ) fun z => Post (pre ++ z.1, z.2) := by
    intro n xs
    induction xs generalizing n with
    | nil =>
      intro pre Γ _ hl h
      unfold compU
      refine ok_val ?_
      have : ds.length = n := by simpa using hl.symm
      show Post (pre ++ [], Γ)
      rw [List.append_nil]
      exact hd _ _ (by rw [this]; exact h)
    | cons d xs ih =>
      intro pre Γ hx hl h
      rw [compU_cons]
      obtain ⟨Γ1, e1, o⟩ := hb n d pre Γ (by have := hx 0; simpa using this.symm) h
      have hx' : ∀ j, xs[j]? = ds[n + 1 + j]? := fun j => by
        have := hx (j + 1)
        simp only [List.getElem?_cons_succ] at this
        rw [this]; congr 1; omega
      rw [e1]
      obtain ⟨x, ex, ox⟩ := o
      rw [ofO_some, bind_val, ex]
      show Ok (if x.1 then _ else _) _
      by_cases hc : x.1 = true
      · rw [if_pos hc] at ox ⊢
        obtain ⟨y, ey, w, ew, hw⟩ := ox
        rw [ey]
        show Ok ((R.ofO (avD y.1)).bind _) _
        rw [ew, ofO_some, bind_val]
        refine ok_bind (ih (n + 1) (pre ++ [w]) _ hx' (by simp at hl; omega) hw) fun r hr => ok_val ?_
        show Post (pre ++ w :: r.1, r.2)
        have : pre ++ w :: r.1 = pre ++ [w] ++ r.1 := by simp
        rw [this]; exact hr
      · rw [if_neg hc] at ox ⊢
        exact ih (n + 1) pre _ hx' (by simp at hl; omega) ox
  have := key 0 ds [] Γ (fun j => by simp) (by simp) h0
  refine this.mono fun z hz => ?_
  simpa using hz
end PD
set_option linter.all false
set_option maxRecDepth 100000
set_option autoImplicit false
namespace PD
open PySem L2
section
variable {Γ Γ1 Γ2 Γ3 : List Sl} {f g h : DF} {k : DA} {n : DN} {c : DC} {t t2 : DT} {fr fr2 : Bool} {d : PyData} {i j : Int} {z z2 : Bool} {ds es : List PyData} {a b : AV} {as : List AV}
theorem e_var {m : Nat} (e : Γ[m]? = some (.dat fr d)) : dVar m Γ = .val (.d fr d, Γ) := by unfold dVar; rw [e]
theorem e_varO {m : Nat} {c : Cl} (e : Γ[m]? = some (.own c)) : dVar m Γ = .val (.s m, Γ) := by unfold dVar; rw [e]
theorem e_varI {m : Nat} {c : Cl} (e : Γ[m]? = some (.io c)) : dVar m Γ = .val (.s m, Γ) := by unfold dVar; rw [e]
theorem e_C : dC d Γ = .val (.d true d, Γ) := rfl
theorem e_I {kk : Int → Int → R Int} {r : Int} (h1 : f Γ = .val (.d fr (.int i), Γ1)) (h2 : g Γ1 = .val (.d fr2 (.int j), Γ2)) (h3 : kk i j = .val r) : dI kk f g Γ = .val (.d true (.int r), Γ2) := by
  unfold dI; rw [h1, bind_val, h2, bind_val]; simp only; rw [h3, bind_val]
theorem k_sub : kSub i j = .val (i - j) := rfl
theorem k_and : kAnd i j = .val (Builtin.bitAnd i j) := rfl
theorem k_or : kOr i j = .val (Builtin.bitOr i j) := rfl
theorem k_mul (e : cMulX i j = true) : kMul i j = .val (i * j) := gq_of _ e
theorem k_div (e : cDiv i j = true) : kDiv i j = .val (i / j) := gq_of _ e
theorem k_mod (e : cMod i j = true) : kMod i j = .val (i % j) := gq_of _ e
theorem k_pow (e : cPow i j = true) : kPow i j = .val (i ^ j.toNat) := gq_of _ e
theorem k_shl (e : cShl i j = true) : kShl i j = .val (i * 2 ^ j.toNat) := gq_of _ e
theorem k_shr (e : cShr i j = true) : kShr i j = .val (i / 2 ^ j.toNat) := gq_of _ e
theorem e_add (h1 : f Γ = .val (.d fr (.int i), Γ1)) (h2 : g Γ1 = .val (.d fr2 (.int j), Γ2)) : dAdd f g Γ = .val (.d true (.int (i + j)), Γ2) := by
  unfold dAdd; rw [h1, bind_val, h2, bind_val]; rfl
theorem e_neg (h1 : f Γ = .val (.d fr (.int i), Γ1)) : dNeg f Γ = .val (.d true (.int (-i)), Γ1) := by
  unfold dNeg; rw [h1, bind_val]
theorem e_cmp {kk : List Sl → AV → AV → R Bool} (h1 : f Γ = .val (a, Γ1)) (h2 : g Γ1 = .val (b, Γ2)) (h3 : kk Γ2 a b = .val z) : dCmp kk f g Γ = .val (.d true (.bool z), Γ2) := by
  unfold dCmp boolR; rw [h1, bind_val, h2, bind_val, h3, bind_val]
theorem k_eqI : kEq Γ (.d fr (.int i)) (.d fr2 (.int j)) = .val (decide (i = j)) := by unfold kEq rdD; exact gq_of _ rfl
theorem k_neI : kNe Γ (.d fr (.int i)) (.d fr2 (.int j)) = .val (!decide (i = j)) := by unfold kNe; rw [k_eqI]; rfl
theorem k_eq {p q : PyData} (h1 : rdD Γ a = some p) (h2 : rdD Γ b = some q) (s1 : SeqAt.shaped p = true) (s2 : SeqAt.shaped q = true) (e : PyData.eqv p q = z) : kEq Γ a b = .val z := by
  unfold kEq; rw [h1, h2]; simp only [s1, s2, Bool.and_true]; rw [e]; rfl
theorem k_ne {p q : PyData} (h1 : rdD Γ a = some p) (h2 : rdD Γ b = some q) (s1 : SeqAt.shaped p = true) (s2 : SeqAt.shaped q = true) (e : PyData.eqv p q = z) : kNe Γ a b = .val (!z) := by
  unfold kNe; rw [k_eq h1 h2 s1 s2 e]; rfl
theorem k_I {r : Int → Int → Bool} : kI r Γ (.d fr (.int i)) (.d fr2 (.int j)) = .val (r i j) := rfl
theorem k_is {p : PyData} (h : rdD Γ a = some p) : kIs Γ a (.d fr .none) = .val (isN p) := by unfold kIs; rw [h]
theorem t_tst (h1 : f Γ = .val (.d fr (.bool z), Γ1)) : dTst f Γ = .val (z, Γ1) := by unfold dTst; rw [h1]; rfl
theorem t_not (h1 : t Γ = .val (z, Γ1)) : dTnot t Γ = .val (!z, Γ1) := by unfold dTnot; rw [h1]; rfl
theorem t_or (h1 : t Γ = .val (z, Γ1)) (h2 : z = false → t2 Γ1 = .val (z2, Γ1)) : dTor t t2 Γ = .val (z || z2, Γ1) := by
  unfold dTor; rw [h1, bind_val]
  cases z with
  | true => rfl
  | false =>
    show ((t2 Γ1).bind fun y => R.val y) = _
    rw [h2 rfl]; rfl
theorem t_and (h1 : t Γ = .val (z, Γ1)) (h2 : z = true → t2 Γ1 = .val (z2, Γ1)) : dTand t t2 Γ = .val (z && z2, Γ1) := by
  unfold dTand; rw [h1, bind_val]
  cases z with
  | false => rfl
  | true =>
    show ((t2 Γ1).bind fun y => R.val y) = _
    rw [h2 rfl]; rfl
theorem e_not (h1 : f Γ = .val (.d fr (.bool z), Γ1)) : dNot f Γ = .val (.d true (.bool (!z)), Γ1) := by unfold dNot; rw [h1]; rfl
theorem e_and (h1 : f Γ = .val (.d fr (.bool z), Γ1)) (h2 : z = true → g Γ1 = .val (.d fr2 (.bool z2), Γ1)) : dAnd f g Γ = .val (.d true (.bool (z && z2)), Γ1) := by
  unfold dAnd; rw [h1, bind_val]
  cases z with
  | false => rfl
  | true => show ((g Γ1).bind _) = _; rw [h2 rfl]; rfl
theorem e_or (h1 : f Γ = .val (.d fr (.bool z), Γ1)) (h2 : z = false → g Γ1 = .val (.d fr2 (.bool z2), Γ1)) : dOr f g Γ = .val (.d true (.bool (z || z2)), Γ1) := by
  unfold dOr; rw [h1, bind_val]
  cases z with
  | true => rfl
  | false => show ((g Γ1).bind _) = _; rw [h2 rfl]; rfl
theorem a_nil : dA0 Γ = .val ([], Γ) := rfl
theorem a_cons (h1 : f Γ = .val (a, Γ1)) (h2 : k Γ1 = .val (as, Γ2)) : dAc f k Γ = .val (a :: as, Γ2) := by unfold dAc; rw [h1, bind_val, h2]; rfl
theorem e_frz (h1 : f Γ = .val (.d true d, Γ1)) : dFrz f Γ = .val (.d true d, Γ1) := by unfold dFrz; rw [h1]; rfl
theorem e_frzF (h1 : f Γ = .val (.d false d, Γ1)) : dFrz f Γ = .val (.d (flat d) d, Γ1) := by unfold dFrz; rw [h1]; rfl
theorem e_frzD (h1 : f Γ = .val (.d fr d, Γ1)) : dFrz f Γ = .val (.d (fr || flat d) d, Γ1) := by
  cases fr with
  | true => exact e_frz h1
  | false => rw [Bool.false_or]; exact e_frzF h1
theorem n_lst (h1 : k Γ = .val (as, Γ1)) (h2 : allT as = some ds) (h3 : szB as = true) : dLst k Γ = .val (ds, Γ1) := by
  unfold dLst; rw [h1, bind_val]; simp only [h2]; exact gq_of _ h3
theorem e_tup (h1 : k Γ = .val (as, Γ1)) (h2 : allF as = some (ds, fr)) (h3 : szB as = true) : dTup k Γ = .val (.d fr (.tuple ds), Γ1) := by
  unfold dTup; rw [h1, bind_val]; simp only [h2]; exact gq_of _ h3
theorem e_ofN (h1 : n Γ = .val (ds, Γ1)) : dOfN n Γ = .val (.d true (.list ds), Γ1) := by unfold dOfN; rw [h1]; rfl
theorem c_l (h1 : n Γ = .val (ds, Γ1)) : nL n Γ = .val (.lst ds, Γ1) := by unfold nL; rw [h1]; rfl
theorem x_c {cl : Cl} (h1 : c Γ = .val (cl, Γ1)) : xC c Γ = .val (.c cl, Γ1) := by unfold xC; rw [h1]; rfl
theorem e_xd {x : DX} (h1 : x Γ = .val (.d d, Γ1)) : eX x Γ = .val (.d true d, Γ1) := by unfold eX; rw [h1]; rfl
theorem e_xc {x : DX} (h1 : x Γ = .val (.c (.lst ds), Γ1)) : eX x Γ = .val (.d true (.list ds), Γ1) := by unfold eX; rw [h1]; rfl
theorem e_ixL (h1 : f Γ = .val (.d fr (.list ds), Γ1)) (h2 : g Γ1 = .val (.d fr2 (.int i), Γ2)) (h3 : atI ds i = some d) : dIxB f g Γ = .val (.d fr d, Γ2) := by
  unfold dIxB; rw [h1, bind_val, h2, bind_val]; unfold ixB dicA ixA; simp only [h3]; rfl
theorem e_ixT (h1 : f Γ = .val (.d fr (.tuple ds), Γ1)) (h2 : g Γ1 = .val (.d fr2 (.int i), Γ2)) (h3 : atI ds i = some d) : dIxB f g Γ = .val (.d fr d, Γ2) := by
  unfold dIxB; rw [h1, bind_val, h2, bind_val]; unfold ixB dicA ixA; simp only [h3]; rfl
theorem e_ixS {m : Nat} (h1 : f Γ = .val (.s m, Γ1)) (h2 : g Γ1 = .val (.d fr2 (.int i), Γ2)) (h4 : rdD Γ2 (.s m) = some (.list ds)) (h3 : atI ds i = some d) : dIxB f g Γ = .val (.d true d, Γ2) := by
  unfold dIxB; rw [h1, bind_val, h2, bind_val]
  have e : dicA Γ2 (.s m) = none := by
    unfold rdD at h4
    unfold dicA
    simp only at h4 ⊢
    split at h4 <;> simp_all
  show (ixB Γ2 (.s m) (.d fr2 (.int i))).bind _ = _
  unfold ixB
  rw [e]
  simp only [ixA, h4, h3]
  rfl
theorem e_B {q : List Sl → List AV → R AV} (h1 : k Γ = .val (as, Γ1)) (h2 : q Γ1 as = .val a) : dB q k Γ = .val (a, Γ1) := by unfold dB; rw [h1, bind_val, h2]; rfl
theorem n_B {q : List Sl → List AV → R (List PyData)} (h1 : k Γ = .val (as, Γ1)) (h2 : q Γ1 as = .val ds) : dBN q k Γ = .val (ds, Γ1) := by unfold dBN; rw [h1, bind_val, h2]; rfl
theorem k_lenL (h : rdD Γ a = some (.list ds)) : kLen Γ [a] = .val (.d true (.int (ds.length : Nat))) := by unfold kLen; simp only [h]
theorem k_lenT (h : rdD Γ a = some (.tuple ds)) : kLen Γ [a] = .val (.d true (.int (ds.length : Nat))) := by unfold kLen; simp only [h]
theorem x_call {m : List Ar → R (Rs × List Sl)} {dds : List PyData} {r : Rs} {Z : List Sl} (h1 : k Γ = .val (as, Γ1)) (h2 : rdDs Γ1 none as = some ds) (h3 : m ((ds ++ dds).map Ar.d) = .val (r, Z)) : xCall m dds k Γ = .val (r, Γ1) := by
  unfold xCall; rw [h1, bind_val, h2, ofO_some, bind_val, h3]; rfl
theorem x_callC {m : List Ar → R (Rs × List Sl)} {dds : List PyData} {r : Rs} {Z : List Sl} {p q : Nat} {ic : Bool × Cl} {cl : Cl} (h1 : k Γ = .val (as, Γ1)) (h2 : pickC p as = some q) (h3 : cellAt Γ1 q = some ic) (h4 : rdDs Γ1 (some q) (as.eraseIdx p) = some ds) (h5 : ic.2.fl = true) (h6 : m (insC p ic.2 (ds ++ dds)) = .val (r, Z)) (h7 : ioAt p Z = some cl) :
    xCallC m p dds k Γ = .val (r, Γ1.set q (mkS ic.1 cl)) := by
  unfold xCallC; rw [h1, bind_val]; unfold preC; rw [h2, ofO_some, bind_val, h3, ofO_some, bind_val, h4, ofO_some, bind_val, h5]
  show ((m (insC p ic.2 (ds ++ dds))).atC p Γ1 q ic.1).bind _ = _
  rw [h6]
  show ((R.ofO (ioAt p Z)).bind _).bind _ = _
  rw [h7]
  rfl
theorem x_callK {m : List Ar → R (Rs × List Sl)} {dds : List PyData} {r : Rs} {Z : List Sl} {p q : Nat} {k2 : DA} {bs : List AV} (h1 : k Γ = .val (as, Γ1)) (h2 : k2 Γ1 = .val (bs, Γ2)) (l1 : as.length = p) (l2 : bs.length = q) (h3 : rdDs Γ2 none (as ++ bs) = some ds) (h4 : m ((ds ++ dds).map Ar.d) = .val (r, Z)) : xCallK m p q dds k k2 Γ = .val (r, Γ2) := by
  unfold xCallK; rw [h1, bind_val, h2, bind_val]; simp only [l1, l2, decide_true, Bool.and_true]
  rw [req_true, bind_val, h3, ofO_some, bind_val, h4]; rfl
theorem i_seqL (h1 : f Γ = .val (.d fr (.list ds), Γ1)) : iSeq f Γ = .val ((ds, fr), Γ1) := by unfold iSeq; rw [h1]; rfl
theorem i_seqT (h1 : f Γ = .val (.d fr (.tuple ds), Γ1)) : iSeq f Γ = .val ((ds, fr), Γ1) := by unfold iSeq; rw [h1]; rfl
theorem i_enumL (h1 : f Γ = .val (.d fr (.list ds), Γ1)) : iEnum f Γ = .val ((enumD ds, fr), Γ1) := by unfold iEnum; rw [h1]; rfl
theorem i_enumT (h1 : f Γ = .val (.d fr (.tuple ds), Γ1)) : iEnum f Γ = .val ((enumD ds, fr), Γ1) := by unfold iEnum; rw [h1]; rfl
theorem i_range1 (h1 : f Γ = .val (.d fr (.int j), Γ1)) (h2 : cRng 0 j = true) : iRange1 f Γ = .val (((rng 0 j).map PyData.int, true), Γ1) := by unfold iRange1; rw [h1, bind_val]; exact gq_of _ h2
theorem i_range2 (h1 : f Γ = .val (.d fr (.int i), Γ1)) (h3 : g Γ1 = .val (.d fr2 (.int j), Γ2)) (h2 : cRng i j = true) : iRange2 f g Γ = .val (((rng i j).map PyData.int, true), Γ2) := by unfold iRange2; rw [h1, bind_val, h3, bind_val]; exact gq_of _ h2
theorem n_lrng1 (h1 : f Γ = .val (.d fr (.int j), Γ1)) (h2 : cLrg 0 j = true) : dLrng1 f Γ = .val ((rng 0 j).map PyData.int, Γ1) := by unfold dLrng1; rw [h1, bind_val]; exact gq_of _ h2
theorem n_lrng2 (h1 : f Γ = .val (.d fr (.int i), Γ1)) (h3 : g Γ1 = .val (.d fr2 (.int j), Γ2)) (h2 : cLrg i j = true) : dLrng2 f g Γ = .val ((rng i j).map PyData.int, Γ2) := by unfold dLrng2; rw [h1, bind_val, h3, bind_val]; exact gq_of _ h2
theorem n_cat (h1 : f Γ = .val (a, Γ1)) (h2 : g Γ1 = .val (b, Γ2)) (h3 : lsA Γ2 a = some ds) (h4 : lsA Γ2 b = some es) (h5 : szB (ds ++ es) = true) : dCat f g Γ = .val (ds ++ es, Γ2) := by
  unfold dCat; rw [h1, bind_val, h2, bind_val, h3, ofO_some, bind_val, h4, ofO_some, bind_val]; exact gq_of _ h5
theorem n_ssetS {ns : List Int} {b0 : Bool} (h1 : f Γ = .val (a, Γ1)) (h2 : rdSeq Γ1 a = some (ns.map PyData.int, b0)) (h3 : ltS64 ns = true) (h4 : intsOf (ns.map PyData.int) = some ns) : dSset f Γ = .val ((setI ns).map PyData.int, Γ1) := by
  unfold dSset; rw [h1, bind_val]; unfold kSset; rw [h2]; simp only [h4]; rw [ofO_some, bind_val, h3]; rfl
theorem n_sset {ns : List Int} {b0 : Bool} (h1 : f Γ = .val (a, Γ1)) (h2 : rdSeq Γ1 a = some (ns.map PyData.int, b0)) (h3 : lt64 ns = true) (h4 : intsOf (ns.map PyData.int) = some ns) : dSset f Γ = .val ((setI ns).map PyData.int, Γ1) := n_ssetS h1 h2 (ltS64_of (of_decide_eq_true h3)) h4
theorem e_isi {ts : List Tn} (h1 : f Γ = .val (a, Γ1)) (h2 : rdD Γ1 a = some d) (h3 : noDct d = true) : dIsi ts f Γ = .val (.d true (.bool (ts.any fun t => tyIs d t)), Γ1) := by
  unfold dIsi; rw [h1, bind_val]; simp only [h2]; exact gq_of _ h3
theorem e_app {m : Nat} {io : Bool} (h0 : cellL Γ m = some (io, es)) (h1 : f Γ = .val (.d true d, Γ1)) (h2 : cellL Γ1 m = some (io, ds)) (h3 : ltS ds = true) : dLm m qAppend (dAc (dFrz f) dA0) Γ = .val (.d true .none, Γ1.set m (mkS io (.lst (ds ++ [d])))) := by
  unfold dLm
  rw [h0, ofO_some, bind_val, a_cons (e_frz h1) a_nil, bind_val, h2, ofO_some, bind_val]
  show ((qAppend ds [.d true d]).bind _) = _
  unfold qAppend
  simp only [h3]
  rfl
end
def W (b : DS) (Γ : List Sl) (P : Fw → List Sl → Prop) : Prop := Ok (b Γ) fun z => P z.1 z.2
section
variable {Γ Γ1 Γ2 : List Sl} {f g : DF} {b r r2 : DS} {x : DX} {n : DC} {t : DT} {fr z : Bool} {d : PyData} {P : Fw → List Sl → Prop} {m : Nat}
theorem w_nil (h : P .nx Γ) : W bNil Γ P := ok_val h
theorem w_seq (h : W b Γ fun w Γ1 => match w with
    | .nx => W r Γ1 P
    | w => P w Γ1) : W (bSeq b r) Γ P := by
  unfold W bSeq
  refine ok_bind h fun z hz => ?_
  obtain ⟨w, Γ1⟩ := z
  cases w with
  | nx => exact hz
  | bk => exact ok_val hz
  | ct => exact ok_val hz
  | rt r => exact ok_val hz
theorem w_one (h : ∃ Γ1, b Γ = .val (.nx, Γ1) ∧ W r Γ1 P) : W (bSeq b r) Γ P := by
  obtain ⟨Γ1, e, h⟩ := h
  exact w_seq ⟨(.nx, Γ1), e, h⟩
theorem w_set (h1 : f Γ = .val (.d fr d, Γ1)) (h : W r (Γ1.set m (.dat fr d)) P) : W (bSeq (bSet m f) r) Γ P := w_one ⟨_, by unfold bSet; rw [h1]; rfl, h⟩
theorem w_setC {c : Cl} (h1 : n Γ = .val (c, Γ1)) (h : W r (Γ1.set m (.own c)) P) : W (bSeq (bSetC m n) r) Γ P := w_one ⟨_, by unfold bSetC; rw [h1]; rfl, h⟩
theorem w_setX {s : Rs} (h1 : x Γ = .val (s, Γ1)) (h : W r (Γ1.set m (rsS s)) P) : W (bSeq (bSetX m x) r) Γ P := w_one ⟨_, by unfold bSetX; rw [h1]; rfl, h⟩
theorem w_setG {gg : DG} (h1 : f Γ = .val (.d fr d, Γ1)) (h2 : gg fr d Γ1 = some Γ2) (h : W r Γ2 P) : W (bSeq (bSetG gg f) r) Γ P := w_one ⟨_, by unfold bSetG; rw [h1, bind_val]; simp only; rw [h2]; rfl, h⟩
theorem w_expr {a : AV} (h1 : f Γ = .val (a, Γ1)) (h : W r Γ1 P) : W (bSeq (bExpr f) r) Γ P := w_one ⟨_, by unfold bExpr; rw [h1]; rfl, h⟩
theorem w_exprX {s : Rs} {e : PyData} (h1 : x Γ = .val (s, Γ1)) (h2 : rsF s = some e) (h : W r Γ1 P) : W (bSeq (bExprX x) r) Γ P := w_one ⟨_, by unfold bExprX; rw [h1, bind_val, h2]; rfl, h⟩
theorem w_ret (h1 : f Γ = .val (.d true d, Γ1)) (h : P (.rt (.d d)) Γ1) : W (bSeq (bRet f) r) Γ P := w_seq ⟨(.rt (.d d), Γ1), by unfold bRet; rw [h1]; rfl, h⟩
theorem w_ret0 (h : P (.rt (.d .none)) Γ) : W (bSeq bRet0 r) Γ P := w_seq ⟨(.rt (.d .none), Γ), rfl, h⟩
theorem w_retC {c : Cl} (h1 : n Γ = .val (c, Γ1)) (h : P (.rt (.c c)) Γ1) : W (bSeq (bRetC n) r) Γ P := w_seq ⟨(.rt (.c c), Γ1), by unfold bRetC; rw [h1]; rfl, h⟩
theorem w_retX {s : Rs} (h1 : x Γ = .val (s, Γ1)) (h : P (.rt s) Γ1) : W (bSeq (bRetX x) r) Γ P := w_seq ⟨(.rt s, Γ1), by unfold bRetX; rw [h1]; rfl, h⟩
theorem w_retO {c : Cl} (h1 : Γ[m]? = some (.own c)) (h : P (.rt (.c c)) (Γ.set m .un)) : W (bSeq (bRetO m) r) Γ P := w_seq ⟨(.rt (.c c), Γ.set m .un), by unfold bRetO; rw [h1], h⟩
theorem w_if {c2 : DS} (h1 : t Γ = .val (z, Γ1)) (hT : z = true → W (bSeq b r) Γ1 P) (hF : z = false → W (bSeq c2 r) Γ1 P) : W (bSeq (bIf t b c2) r) Γ P := by
  have e : bSeq (bIf t b c2) r Γ = if z then bSeq b r Γ1 else bSeq c2 r Γ1 := by
    unfold bSeq bIf
    rw [h1, bind_val]
    cases z <;> rfl
  unfold W
  rw [e]
  cases z with
  | true => exact hT rfl
  | false => exact hF rfl
theorem w_seqA (h : W (bSeq b (bSeq r r2)) Γ P) : W (bSeq (bSeq b r) r2) Γ P := by
  have e : bSeq (bSeq b r) r2 Γ = bSeq b (bSeq r r2) Γ := by
    unfold bSeq
    rw [R.bind_assoc]
    congr 1
    funext z
    obtain ⟨w, Γ1⟩ := z
    cases w <;> rfl
  unfold W
  rw [e]
  exact h
theorem w_seqN (h : W r Γ P) : W (bSeq bNil r) Γ P := h
theorem w_frz {c : Cl} (h1 : Γ[m]? = some (.own c)) (h2 : frzC c = some d) (h : W r (Γ.set m (.dat true d)) P) : W (bFrz m r) Γ P := by
  unfold W bFrz
  simp only [h1, h2]
  exact h
theorem w_inc {i j : Int} {fr2 : Bool} (h0 : Γ[m]? = some (.dat fr (.int i))) (h1 : f Γ = .val (.d fr2 (.int j), Γ1)) (h : W r (Γ1.set m (.dat true (.int (i + j)))) P) : W (bSeq (bInc m f) r) Γ P := w_one ⟨_, by unfold bInc; rw [h0]; simp only [intS]; rw [ofO_some, bind_val, h1]; rfl, h⟩
theorem w_for {is : List Nat} {gg : DG} {it : DI} {y : List PyData × Bool} (Inv : Nat → List Sl → Prop) (h1 : it Γ = .val (y, Γ1)) (h0 : Inv 0 (wipeG Γ1 is))
    (hb : ∀ i d Γ, y.1[i]? = some d → Inv i Γ → ∃ Γ1, gg y.2 d Γ = some Γ1 ∧ W b Γ1 fun w Γ2 => match w with
      | .nx => Inv (i + 1) (wipeG Γ2 is)
      | .ct => Inv (i + 1) (wipeG Γ2 is)
      | .bk => W r (wipeG Γ2 is) P
      | .rt s => P (.rt s) Γ2) (hd : ∀ Γ, Inv y.1.length Γ → W r Γ P) : W (bSeq (bFor is gg it b) r) Γ P := by
  refine w_seq ?_
  unfold W bFor
  rw [h1, bind_val]
  exact ok_loopU (Post := fun z => match z.1 with
    | .nx => W r z.2 P
    | w => P w z.2) Inv y.1 h0 (fun i d Γ hd hi => by
      obtain ⟨Γ1, e1, o⟩ := hb i d Γ hd hi
      exact ⟨Γ1, e1, o.mono fun z hz => by
        obtain ⟨w, Γ2⟩ := z
        cases w <;> exact hz⟩) hd
theorem w_while {is : List Nat} {fl : List Sl → Nat} (Inv : Nat → List Sl → Prop) (k : Nat) (hk : k < fl Γ) (h0 : Inv k (wipeG Γ is))
    (hb : ∀ n Γ, Inv n Γ → ∃ z Γ1, t Γ = .val (z, Γ1) ∧ (z = true → W b Γ1 fun w Γ2 => match w with
      | .nx => ∃ m, m < n ∧ Inv m (wipeG Γ2 is)
      | .ct => ∃ m, m < n ∧ Inv m (wipeG Γ2 is)
      | .bk => W r (wipeG Γ2 is) P
      | .rt s => P (.rt s) Γ2) ∧ (z = false → W r Γ1 P)) : W (bSeq (bWhile is fl t b) r) Γ P := by
  refine w_seq ?_
  unfold W bWhile
  refine ok_loopW (Post := fun z => match z.1 with
    | .nx => W r z.2 P
    | w => P w z.2) Inv (fun n Γ hi => ?_) (fl Γ) k Γ hk h0
  obtain ⟨z, Γ1, e, hT, hF⟩ := hb n Γ hi
  refine ⟨(z, Γ1), e, ?_⟩
  cases z with
  | true =>
    show Ok _ _
    exact (hT rfl).mono fun y hy => by
      obtain ⟨w, Γ2⟩ := y
      cases w <;> exact hy
  | false => exact hF rfl
end
theorem ok_run {n np : Nat} {b : DS} {as : List Ar} {Q : Rs × List Sl → Prop} (hl : as.length = np) (h : W b (initS n as) fun w Γ => ∃ r Z, fwR w = some r ∧ cellsAt as Γ = some Z ∧ Q (r, Z)) : Ok (runB n np b as) Q := by
  unfold runB
  have : (as.length == np) = true := by rw [hl]; exact beq_self_eq_true _
  rw [this, req_true, bind_val]
  obtain ⟨z, e, r, Z, h1, h2, h3⟩ := h
  rw [e]
  show Ok ((R.ofO (fwR z.1)).bind _) Q
  rw [h1, ofO_some, bind_val, h2]
  exact ok_val h3
local macro_rules
  | `(tactic| bv_omega) => `(tactic| with_reducible first
  | exact e_C | exact a_nil | exact k_sub | exact k_and | exact k_or | exact k_eqI | exact k_neI | exact k_I
  | apply e_I | apply e_add | apply e_neg | apply e_cmp | apply t_tst | apply t_not | apply e_not
  | apply k_mul | apply k_div | apply k_mod | apply k_pow | apply k_shl | apply k_shr
  | apply a_cons | apply n_lst | apply e_tup | apply e_ofN | apply c_l | apply x_c | apply e_B | apply n_B | apply e_isi)
local macro_rules
  | `(tactic| symm_saturate) => `(tactic| repeat' first | bv_omega | exact e_var rfl | exact e_varO rfl | exact e_varI rfl | rfl | assumption)
end PD
section
open PySem L2 PD
local macro_rules
  | `(tactic| bv_omega) => `(tactic| with_reducible first
  | exact e_C | exact a_nil | exact k_sub | exact k_and | exact k_or | exact k_eqI | exact k_neI | exact k_I
  | apply e_I | apply e_add | apply e_neg | apply e_cmp | apply t_tst | apply t_not | apply e_not
  | apply k_mul | apply k_div | apply k_mod | apply k_pow | apply k_shl | apply k_shr
  | apply a_cons | apply n_lst | apply e_tup | apply e_ofN | apply c_l | apply x_c | apply e_B | apply n_B | apply e_isi)
local macro_rules
  | `(tactic| symm_saturate) => `(tactic| repeat' first | bv_omega | exact e_var rfl | exact e_varO rfl | exact e_varI rfl | rfl | assumption)
set_option linter.all false
set_option maxRecDepth 100000
set_option autoImplicit false
namespace PD
open PySem L2
section
variable {Γ Γ1 Γ2 : List Sl} {fe : DF} {r : DS} {m : Nat} {io fr : Bool} {f : Fd} {n : Int} {P : Fw → List Sl → Prop}
end
theorem mod_64 {a M : Int} (h : 0 < M) (h2 : M < 2 ^ 64) : (a % M).natAbs < 2 ^ 64 := by
  have h3 := Int.emod_nonneg a (by omega : M ≠ 0)
  have h4 := Int.emod_lt_of_pos a h
  omega
theorem mulR {i j : Int} (h : j.natAbs < 2 ^ 64) : cMulX i j = true := by unfold cMulX; rw [decide_eq_true h]; simp
theorem mulL {i j : Int} (h : i.natAbs < 2 ^ 64) : cMulX i j = true := by unfold cMulX; rw [decide_eq_true h]; simp
theorem modP {i j : Int} (h : 0 < j) : cMod i j = true := decide_eq_true h
theorem log2_lt {n : Nat} (h : n < 2 ^ 64) : n.log2 < 9000 := by
  by_cases h0 : n = 0
  · subst h0; decide
  · have := (Nat.log2_lt h0 (k := 64)).mpr h
    omega
theorem divP {i j : Int} (h : 0 < j) (h2 : j < 2 ^ 64) : cDiv i j = true := by
  unfold cDiv
  rw [Bool.and_eq_true]
  exact ⟨decide_eq_true h, decide_eq_true (log2_lt (by omega))⟩
end PD
set_option linter.all false
set_option maxRecDepth 100000
set_option autoImplicit false
namespace PD
open PySem L2
abbrev dL (ns : List Int) : PyData := .list (ns.map PyData.int)
abbrev dT (ns : List Int) : PyData := .tuple (ns.map PyData.int)
abbrev dTT (rs : List (List Int)) : PyData := .tuple (rs.map fun r => dT r)
theorem flatI : ∀ ns : List Int, flat.flatA (ns.map PyData.int) = true
  | [] => rfl
  | n :: ns => by simp [flat.flatA, flat, flatI ns]
theorem flat_int (i : Int) : flat (.int i) = true := rfl
theorem gmap {α β : Type} {f : α → β} {xs : List α} {i : Nat} {d : β} (h : (xs.map f)[i]? = some d) : ∃ x, xs[i]? = some x ∧ d = f x := by
  rw [List.getElem?_map] at h
  cases hx : xs[i]? with
  | none => rw [hx] at h; cases h
  | some x => rw [hx] at h; cases h; exact ⟨x, rfl, rfl⟩
theorem mem_at {α : Type} {xs : List α} {i : Nat} {x : α} (h : xs[i]? = some x) : x ∈ xs := List.mem_of_getElem? h
theorem k_tup {Γ : List Sl} {a : AV} {ds : List PyData} {fr : Bool} (h : rdSeq Γ a = some (ds, fr)) : kTuple Γ [a] = .val (.d fr (.tuple ds)) := by unfold kTuple; simp only [h]; rfl
theorem k_list {Γ : List Sl} {a : AV} {ds : List PyData} {fr : Bool} (h : rdSeq Γ a = some (ds, fr)) (h2 : (fr || flat.flatA ds) = true) : kList Γ [a] = .val ds := by unfold kList; simp only [h]; exact gq_of _ h2
theorem ltS_of {α : Type} {xs : List α} (h : xs.length < 2 ^ 20) : ltS xs = true := by
  unfold ltS
  apply decide_eq_true
  have : (2 : Nat) ^ 20 ≤ sizeLine := by decide
  omega
theorem szB_of {α : Type} {xs : List α} (h : xs.length < 2 ^ 20) : szB xs = true := by
  unfold szB
  apply decide_eq_true
  have : (2 : Nat) ^ 20 ≤ sizeLine := by decide
  omega
def bIsIn : DS := (bSeq (bRet (dCmp kEq (dI kAnd (dI kShr (dVar 0) (dVar 1)) (dC (.int 1))) (dC (.int 1)))) bNil)
theorem isIn_u (m k : Int) (hk : 0 ≤ k) : runB 2 2 bIsIn [.d (.int m), .d (.int k)] = .val (.d (.bool (decide (Builtin.bitAnd (m / 2 ^ k.toNat) 1 = 1))), [.un, .un]) := by
  have hk : cShr m k = true := decide_eq_true hk
  refine ok_eq (ok_run rfl ?_)
  unfold bIsIn
  apply w_ret
  · symm_saturate
  exact ⟨_, _, rfl, rfl, rfl⟩
theorem enumD_at {ds : List PyData} {i : Nat} {d : PyData} (h : (enumD ds)[i]? = some d) : ∃ x, ds[i]? = some x ∧ d = .tuple [.int (i : Nat), x] := by
  unfold enumD at h
  rw [List.getElem?_mapIdx] at h
  cases hx : ds[i]? with
  | none => rw [hx] at h; cases h
  | some x => rw [hx] at h; cases h; exact ⟨x, rfl, rfl⟩
theorem enumD_len (ds : List PyData) : (enumD ds).length = ds.length := by unfold enumD; simp
theorem take_step {α : Type} {xs : List α} {i : Nat} {x : α} (h : xs[i]? = some x) : xs.take (i + 1) = xs.take i ++ [x] := by
  rw [List.take_add_one, h]; rfl
end PD
set_option linter.all false
set_option maxRecDepth 100000
set_option autoImplicit false
namespace PD
open PySem L2
theorem band_pos {x y : Int} (hx : 0 ≤ x) (hy : 0 ≤ y) : Builtin.bitAnd x y = ((x.toNat &&& y.toNat : Nat) : Int) := by
  unfold Builtin.bitAnd
  rw [decide_eq_true hx, decide_eq_true hy]
theorem bor_pos {x y : Int} (hx : 0 ≤ x) (hy : 0 ≤ y) : Builtin.bitOr x y = ((x.toNat ||| y.toNat : Nat) : Int) := bitOr_nn hx hy
structure Msk (k : Nat) (m : Int) (S : Nat → Prop) : Prop where
  nn : 0 ≤ m
  lt : m.toNat < 2 ^ k
  bit : ∀ j, m.toNat.testBit j = true ↔ S j
theorem Msk.iff {k : Nat} {m : Int} {S T : Nat → Prop} (h : Msk k m S) (e : ∀ j, S j ↔ T j) : Msk k m T := ⟨h.nn, h.lt, fun j => (h.bit j).trans (e j)⟩
theorem msk_zero (k : Nat) : Msk k 0 (fun _ => False) := ⟨by decide, by simp; exact Nat.two_pow_pos k, fun j => by simp⟩
theorem msk_one {k j : Nat} (h : j < k) : Msk k ((1 : Int) * 2 ^ j) (fun i => i = j) := by
  have e : ((1 : Int) * 2 ^ j) = ((2 ^ j : Nat) : Int) := by rw [Int.one_mul]; simp
  rw [e]
  refine ⟨Int.natCast_nonneg _, by rw [Int.toNat_natCast]; exact Nat.pow_lt_pow_right (by decide) h, fun i => ?_⟩
  rw [Int.toNat_natCast, Nat.testBit_two_pow]
  simp only [decide_eq_true_eq]
  exact eq_comm
theorem msk_or {k : Nat} {a b : Int} {S T : Nat → Prop} (ha : Msk k a S) (hb : Msk k b T) : Msk k (Builtin.bitOr a b) (fun j => S j ∨ T j) := by
  rw [bor_pos ha.nn hb.nn]
  refine ⟨Int.natCast_nonneg _, by rw [Int.toNat_natCast]; exact Nat.or_lt_two_pow ha.lt hb.lt, fun j => ?_⟩
  rw [Int.toNat_natCast, Nat.testBit_or, Bool.or_eq_true, ha.bit, hb.bit]
def bitsFrom (a : Nat) : Nat → Nat → List Int
  | 0, _ => []
  | n + 1, x => if x = 0 then [] else (if x % 2 = 1 then [(a : Int)] else []) ++ bitsFrom (a + 1) n (x / 2)
theorem bitsFrom_mem {y : Int} : ∀ {n a x : Nat}, x < n → (y ∈ bitsFrom a n x ↔ ∃ j : Nat, x.testBit j = true ∧ y = (a + j : Nat))
  | 0, _, _, h => absurd h (by omega)
  | n + 1, a, x, h => by
    unfold bitsFrom
    by_cases hx : x = 0
    · subst hx; simp
    · rw [if_neg hx, List.mem_append, bitsFrom_mem (n := n) (a := a + 1) (x := x / 2) (by omega)]
      constructor
      · rintro (z | ⟨j, h1, h2⟩)
        · split at z
          · next h1 => exact ⟨0, by simp [Nat.testBit_zero, h1], by simpa using z⟩
          · simp at z
        · exact ⟨j + 1, by rw [Nat.testBit_succ]; exact h1, by rw [h2]; congr 1; omega⟩
      · rintro ⟨j, h1, h2⟩
        cases j with
        | zero =>
          rw [Nat.testBit_zero] at h1
          simp at h1
          left
          rw [if_pos h1]
          simpa using h2
        | succ j => exact .inr ⟨j, by rw [Nat.testBit_succ] at h1; exact h1, by rw [h2]; congr 1; omega⟩
theorem bitsFrom_rise : ∀ {n a x : Nat}, (bitsFrom a n x).Pairwise (· < ·) ∧ ∀ y ∈ bitsFrom a n x, (a : Int) ≤ y
  | 0, _, _ => ⟨.nil, by simp [bitsFrom]⟩
  | n + 1, a, x => by
    obtain ⟨h1, h2⟩ := bitsFrom_rise (n := n) (a := a + 1) (x := x / 2)
    unfold bitsFrom
    by_cases hx : x = 0
    · simp [hx]
    · rw [if_neg hx]
      split
      · refine ⟨List.pairwise_cons.mpr ⟨fun y hy => ?_, h1⟩, fun y hy => ?_⟩
        · have := h2 y hy
          omega
        · rcases List.mem_cons.mp hy with z | z
          · omega
          · have := h2 y z
            omega
      · refine ⟨by simpa using h1, fun y hy => ?_⟩
        have := h2 y (by simpa using hy)
        omega
def Rise (xs : List Int) (S : Nat → Prop) : Prop := xs.Pairwise (· < ·) ∧ ∀ y : Int, y ∈ xs ↔ ∃ j : Nat, S j ∧ y = j
theorem Rise.ext {xs ys : List Int} {S : Nat → Prop} (h : Rise xs S) (h' : Rise ys S) : xs = ys := rise_ext h.1 h'.1 fun k => (h.2 k).trans (h'.2 k).symm
theorem Rise.nil {xs : List Int} {S : Nat → Prop} (h : Rise xs S) : xs = [] ↔ ∀ j, ¬ S j := by
  constructor
  · rintro rfl j hj
    exact absurd ((h.2 j).mpr ⟨j, hj, rfl⟩) (by simp)
  · intro z
    cases hx : xs with
    | nil => rfl
    | cons y ys =>
      obtain ⟨j, h1, _⟩ := (h.2 y).mp (by rw [hx]; simp)
      exact absurd h1 (z j)
def NetOk (net : List (List Int)) : Prop := ∀ (k : Nat) (row : List Int), net[k]? = some row → (∀ e ∈ row, 0 ≤ e ∧ e < (k : Int)) ∧ row.Pairwise (· < ·)
inductive Anc (net : List (List Int)) : Nat → Nat → Prop
  | rf (i : Nat) : Anc net i i
  | st {i k j : Nat} {row : List Int} : net[i]? = some row → ((k : Nat) : Int) ∈ row → Anc net k j → Anc net i j
theorem anc_iff {net : List (List Int)} {i j : Nat} {row : List Int} (h : net[i]? = some row) : Anc net i j ↔ j = i ∨ ∃ k : Nat, ((k : Nat) : Int) ∈ row ∧ Anc net k j := by
  constructor
  · intro a
    cases a with
    | rf => exact .inl rfl
    | st h1 h2 h3 => rw [h] at h1; cases h1; exact .inr ⟨_, h2, h3⟩
  · rintro (rfl | ⟨k, h2, h3⟩)
    · exact .rf _
    · exact .st h h2 h3
def RowOk (n : Nat) (row : List Bool) (S : Nat → Prop) : Prop := row.length = n ∧ ∀ (j : Nat) (b : Bool), row[j]? = some b → (b = true ↔ S j)
theorem RowOk.iff {n : Nat} {row : List Bool} {S T : Nat → Prop} (h : RowOk n row S) (e : ∀ j, S j ↔ T j) : RowOk n row T := ⟨h.1, fun j b z => (h.2 j b z).trans (e j)⟩
theorem RowOk.at {n : Nat} {row : List Bool} {S : Nat → Prop} (h : RowOk n row S) {j : Nat} (hj : j < n) : ∃ b, row[j]? = some b ∧ (b = true ↔ S j) := by
  have : j < row.length := by rw [h.1]; exact hj
  exact ⟨row[j], List.getElem?_eq_getElem this, h.2 j _ (List.getElem?_eq_getElem this)⟩
theorem any_int (x : Int) (xs : List Int) : ((xs.map PyData.int).any fun z => PyData.eqv z (.int x)) = decide (x ∈ xs) := by
  induction xs with
  | nil => simp
  | cons y ys ih =>
    rw [List.map_cons, List.any_cons, ih, eqt_int.eq]
    by_cases h : y = x
    · simp [h]
    · have h2 : ¬ x = y := fun e => h e.symm
      simp [h, h2]
theorem rise_len {xs : List Int} {S : Nat → Prop} {n : Nat} (h : Rise xs S) (hS : ∀ j, S j → j < n) : xs.length ≤ n := by
  have key : ∀ (l : List Int) (a : Nat), l.Pairwise (· < ·) → (∀ x ∈ l, (a : Int) ≤ x ∧ x < n) → a ≤ n → l.length + a ≤ n := by
    intro l
    induction l with
    | nil => intro a _ _ h; simpa using h
    | cons y l ih =>
      intro a hp hq ha
      rw [List.pairwise_cons] at hp
      have hy := hq y (by simp)
      have := ih (y.toNat + 1) hp.2 (fun x hx => ⟨by have := hp.1 x hx; omega, (hq x (by simp [hx])).2⟩) (by omega)
      simp
      omega
  simpa using key xs 0 h.1 (fun x hx => by obtain ⟨j, hj, rfl⟩ := (h.2 x).mp hx; have := hS j hj; omega) (Nat.zero_le _)
theorem cShl_of {j : Int} (h0 : 0 ≤ j) (h : j < 100000) : cShl 1 j = true := by
  unfold cShl
  rw [decide_eq_true h0, Bool.true_and]
  refine decide_eq_true ?_
  have : Builtin.Int.intBits 1 = 1 := by decide
  rw [this]
  omega
theorem isIn_msk {n : Nat} {b : Int} {S : Nat → Prop} (h : Msk n b S) {j : Int} (h0 : 0 ≤ j) : (Builtin.bitAnd (b / 2 ^ j.toNat) 1 = 1) ↔ S j.toNat := by
  rw [← h.bit j.toNat]
  obtain ⟨k, rfl⟩ : ∃ k : Nat, j = k := ⟨j.toNat, by omega⟩
  obtain ⟨m, rfl⟩ : ∃ m : Nat, b = m := ⟨b.toNat, by have := h.nn; omega⟩
  simp only [Int.toNat_natCast]
  have e : ((m : Int) / 2 ^ k) = ((m / 2 ^ k : Nat) : Int) := by simp
  rw [e, band_pos (Int.natCast_nonneg _) (by decide)]
  simp only [Int.toNat_natCast]
  rw [show ((1 : Int).toNat) = 1 from rfl, Nat.and_one_is_mod, Nat.testBit_eq_decide_div_mod_eq]
  simp
  omega
def bBitsOf : DS := (bSeq (bSetX 1 (xC (nL (dLst dA0)))) (bSeq (bFor [2, 3, 4, 5] (gT2 (gN 2) (gN 3)) (iEnum (dVar 0)) (bSeq (bSet 4 (dI kShl (dC (.int 1)) (dVar 2))) (bSeq (bFor [5] (gN 5) (iSeq (dVar 3)) (bSeq (bSet 4 (dI kOr (dVar 4) (dIxB (dVar 1) (dVar 5)))) bNil)) (bSeq (bExpr (dLm 1 qAppend (dAc (dFrz (dVar 4)) dA0))) bNil)))) (bSeq (bRetO 1) bNil)))
def BitsOk (net : List (List Int)) (bs : List Int) : Prop := bs.length = net.length ∧ ∀ (i : Nat) (b : Int), bs[i]? = some b → Msk net.length b (Anc net i)
theorem bitsOf_u (net : List (List Int)) (hN : NetOk net) (hn : net.length ≤ 1000) : ∃ bs, BitsOk net bs ∧ runB 6 1 bBitsOf [.d (dTT net)] = .val (.c (.lst (bs.map PyData.int)), [.un]) := by
  have key : Ok (runB 6 1 bBitsOf [.d (dTT net)]) fun z => ∃ bs, BitsOk net bs ∧ z = (.c (.lst (bs.map PyData.int)), [.un]) := by
    refine ok_run rfl ?_
    unfold bBitsOf
    apply w_setX
    · exact x_c (c_l (n_lst a_nil rfl rfl))
    refine w_for (y := (enumD (net.map fun r => dT r), false)) (Γ1 := [.dat false (dTT net), .own (.lst []), .un, .un, .un, .un]) (fun i Γ => ∃ bs : List Int, Γ = [.dat false (dTT net), .own (.lst (bs.map PyData.int)), .un, .un, .un, .un] ∧ bs.length = i ∧ ∀ (i : Nat) (b : Int), bs[i]? = some b → Msk net.length b (Anc net i)) ?_ ⟨[], rfl, rfl, fun i b z => by simp at z⟩ ?_ ?_
    · exact i_enumT (e_var rfl)
    · rintro i d Γ hd ⟨bs, rfl, hbl, hbs⟩
      obtain ⟨x, hx, rfl⟩ := enumD_at hd
      obtain ⟨row, hr, rfl⟩ := gmap hx
      obtain ⟨r1, r2⟩ := hN i row hr
      have hi : i < net.length := (List.getElem?_eq_some_iff.mp hr).1
      refine ⟨_, rfl, ?_⟩
      apply w_set
      · apply e_I
        · exact e_C
        · exact e_var rfl
        · exact k_shl (cShl_of (by omega) (by omega))
      refine w_for (y := (row.map PyData.int, false)) (Γ1 := [.dat false (dTT net), .own (.lst (bs.map PyData.int)), .dat false (.int (i : Nat)), .dat false (dT row), .dat true (.int (1 * 2 ^ ((i : Nat) : Int).toNat)), .un]) (fun k Γ => ∃ t : Int, Γ = [.dat false (dTT net), .own (.lst (bs.map PyData.int)), .dat false (.int (i : Nat)), .dat false (dT row), .dat true (.int t), .un] ∧ Msk net.length t (fun j => j = i ∨ ∃ m : Nat, (m : Int) ∈ row.take k ∧ Anc net m j)) ?_ ⟨_, rfl, ?_⟩ ?_ ?_
      · exact i_seqT (e_var rfl)
      · rw [Int.toNat_natCast]
        exact (msk_one hi).iff fun j => by simp
      · rintro k d Γ hd ⟨t, rfl, ht⟩
        obtain ⟨y, hy, rfl⟩ := gmap hd
        obtain ⟨y0, y1⟩ := r1 y (mem_at hy)
        obtain ⟨b, hb⟩ : ∃ b, bs[y.toNat]? = some b := ⟨_, List.getElem?_eq_getElem (by omega)⟩
        refine ⟨_, rfl, ?_⟩
        apply w_set
        · apply e_I
          · exact e_var rfl
          · apply e_ixS
            · exact e_varO rfl
            · exact e_var rfl
            · rfl
            · have e : y = ((y.toNat : Nat) : Int) := by omega
              rw [e]
              exact atI_nat (by rw [List.getElem?_map, hb]; rfl)
          · exact k_or
        refine w_nil ⟨_, rfl, (msk_or ht (hbs _ _ hb)).iff fun j => ?_⟩
        rw [take_step hy]
        constructor
        · rintro ((z | ⟨k, k1, k2⟩) | z)
          · exact .inl z
          · exact .inr ⟨k, by simp [k1], k2⟩
          · exact .inr ⟨y.toNat, by simp; right; omega, z⟩
        · rintro (z | ⟨k, k1, k2⟩)
          · exact .inl (.inl z)
          · rcases List.mem_append.mp k1 with q | q
            · exact .inl (.inr ⟨k, q, k2⟩)
            · simp at q
              refine .inr ?_
              have : k = y.toNat := by omega
              rw [← this]; exact k2
      · rintro Γ ⟨t, rfl, ht⟩
        have ht : Msk net.length t (Anc net i) := ht.iff fun j => by
          show (j = i ∨ ∃ m : Nat, (m : Int) ∈ row.take (row.map PyData.int).length ∧ Anc net m j) ↔ _
          rw [List.length_map, List.take_length]
          exact (anc_iff hr).symm
        apply w_expr
        · apply e_app
          · rfl
          · exact e_var rfl
          · rfl
          · exact ltS_of (by rw [List.length_map]; omega)
        refine w_nil ⟨bs ++ [t], ?_, by simp [hbl], fun k c z => ?_⟩
        · rw [List.map_append]; rfl
        · by_cases hk : k < bs.length
          · rw [List.getElem?_append_left hk] at z
            exact hbs k c z
          · have hk2 : k = bs.length := by
              have := (List.getElem?_eq_some_iff.mp z).1
              simp at this
              omega
            subst hk2
            simp at z
            subst z
            rw [hbl]
            exact ht
    · rintro Γ ⟨bs, rfl, hbl, hbs⟩
      apply w_retO
      · rfl
      refine ⟨_, _, rfl, rfl, bs, ⟨?_, hbs⟩, rfl⟩
      rw [hbl]
      show (enumD (net.map fun r => dT r)).length = _
      rw [enumD_len, List.length_map]
  obtain ⟨z, e, bs, h, rfl⟩ := key
  exact ⟨bs, h, e⟩
end PD
set_option linter.all false
set_option maxRecDepth 100000
set_option autoImplicit false
namespace PD
open PySem L2
theorem n_comp {α : Type} {enc : α → PyData} (xs : List α) (p : α → Bool) (v : α → PyData) {vs : List Nat} {g : DG} {it : DI} {t : DT} {e : DF} {Γ Γ1 Γ0 : List Sl} {fr : Bool} (h1 : it Γ = .val ((xs.map enc, fr), Γ1)) (hs : xs.length < 2 ^ 20) (h0 : wipeG Γ1 vs = Γ0)
    (hb : ∀ x ∈ xs, ∃ Γ2, g fr (enc x) Γ0 = some Γ2 ∧ wipeG Γ2 vs = Γ0 ∧ t Γ2 = .val (p x, Γ2) ∧ (p x = true → e Γ2 = .val (.d true (v x), Γ2))) : nComp vs g it t e Γ = .val ((xs.filter p).map v, Γ0) := by
  unfold nComp
  rw [h1, bind_val]
  have : szB (xs.map enc) = true := szB_of (by rw [List.length_map]; exact hs)
  show (R.req (szB (xs.map enc))).bind _ = _
  rw [this, req_true, bind_val]
  refine ok_eq (ok_compU (fun i out Γ => Γ = Γ0 ∧ out = ((xs.take i).filter p).map v) (xs.map enc) ⟨h0, by simp⟩ (fun i d out Γ hd hI => ?_) fun out Γ hI => ?_)
  · obtain ⟨rfl, rfl⟩ := hI
    obtain ⟨x, hx, rfl⟩ := gmap hd
    obtain ⟨Γ2, q1, q2, q3, q4⟩ := hb x (mem_at hx)
    refine ⟨Γ2, q1, ok_of q3 ?_⟩
    show if p x = true then _ else _
    by_cases hp : p x = true
    · rw [if_pos hp]
      refine ok_of (q4 hp) ⟨v x, rfl, q2, ?_⟩
      rw [take_step hx, List.filter_append, List.map_append]
      simp [hp]
    · rw [if_neg hp]
      refine ⟨q2, ?_⟩
      rw [take_step hx, List.filter_append, List.map_append]
      simp [hp]
  · obtain ⟨rfl, rfl⟩ := hI
    show (_, _) = (_, _)
    rw [List.length_map, List.take_length]
theorem k_ninI {Γ : List Sl} {fr fr2 : Bool} (x : Int) (ns : List Int) : kNinB Γ (.d fr (.int x)) (.d fr2 (dL ns)) = .val (!decide (x ∈ ns)) := by
  unfold kNinB kInB dicA kIn
  simp only [rdD]
  rw [eqt_int.sh (by decide) x, (eqt_list eqt_int).sh (by decide) ns, any_int]
  rfl
def inb (b one : Int) : Bool := decide (Builtin.bitAnd (b / 2 ^ one.toNat) 1 = 1)
def uIsIn : List Ar → R (Rs × List Sl) := runB 2 2 bIsIn
def optI : Option Int → PyData
  | none => .none
  | some i => .int i
def BestAt (L : Nat → Int) (barred : List Int) (n : Nat) (best : Option Int) (most : Int) : Prop := match best with
  | none => most = 0 ∧ ∀ k : Nat, k < n → ((k : Nat) : Int) ∉ barred → L k ≤ 0
  | some m => ∃ j : Nat, m = j ∧ j < n ∧ ((j : Nat) : Int) ∉ barred ∧ most = L j ∧ 0 < L j ∧ (∀ k : Nat, k < n → ((k : Nat) : Int) ∉ barred → L k ≤ L j) ∧ ∀ k : Nat, k < j → ((k : Nat) : Int) ∉ barred → L k < L j
theorem BestAt.nn {L : Nat → Int} {barred : List Int} {n : Nat} {best : Option Int} {most : Int} (h : BestAt L barred n best most) : 0 ≤ most := by
  cases best with
  | none => have := h.1; omega
  | some m => obtain ⟨j, _, _, _, h1, h2, _⟩ := h; omega
theorem BestAt.more {L : Nat → Int} {barred : List Int} {n : Nat} {best : Option Int} {most : Int} (h : BestAt L barred n best most) (hb : ((n : Nat) : Int) ∉ barred) (hs : most < L n) : BestAt L barred (n + 1) (some (n : Int)) (L n) := by
  have nn := h.nn
  have old : ∀ k : Nat, k < n → ((k : Nat) : Int) ∉ barred → L k ≤ most := by
    cases best with
    | none => obtain ⟨h1, h2⟩ := h; intro k hk hb; have := h2 k hk hb; omega
    | some m => obtain ⟨j, e1, e2, e3, e4, e5, e6, e7⟩ := h; intro k hk hb; rw [e4]; exact e6 k hk hb
  refine ⟨n, rfl, by omega, hb, rfl, by omega, fun k hk hb => ?_, fun k hk hb => ?_⟩
  · by_cases e : k = n
    · subst e; omega
    · have := old k (by omega) hb; omega
  · have := old k hk hb; omega
theorem rng_at {j : Int} {i : Nat} {x : Int} (h : (rng 0 j)[i]? = some x) : x = (i : Nat) ∧ (i : Int) < j := by
  unfold rng at h
  obtain ⟨k, hk, rfl⟩ := gmap h
  rw [List.getElem?_range (by
    have := (List.getElem?_eq_some_iff.mp hk).1
    simpa using this)] at hk
  cases hk
  have := (List.getElem?_eq_some_iff.mp h).1
  simp at this
  omega
theorem rng_len (i j : Int) : (rng i j).length = (j - i).toNat := by unfold rng; simp
theorem cRng_of {i j : Int} (h1 : -(2 ^ 62) ≤ i) (h2 : i < 2 ^ 62) (h3 : -(2 ^ 62) ≤ j) (h4 : j < 2 ^ 62) : cRng i j = true := decide_eq_true ⟨h1, h2, h3, h4⟩
end PD
set_option linter.all false
set_option maxRecDepth 100000
set_option autoImplicit false
namespace PD
open PySem L2
theorem e_frzT {Γ Γ1 : List Sl} {f : DF} {fr : Bool} {d : PyData} (h1 : f Γ = .val (.d fr d, Γ1)) (h2 : flat d = true) : dFrz f Γ = .val (.d true d, Γ1) := by
  have := e_frzD h1
  rw [h2, Bool.or_true] at this
  exact this
theorem x_callE {Γ Γ1 Γ2 : List Sl} {k : DA} {as : List AV} {ds : List PyData} {m : List Ar → R (Rs × List Sl)} {dds : List PyData} {r : Rs} {Z : List Sl} {p q : Nat} {ic : Bool × Cl} {cl : Cl} (h1 : k Γ = .val (as, Γ1)) (h2 : pickC p as = some q) (h3 : cellAt Γ1 q = some ic) (h4 : rdDs Γ1 (some q) (as.eraseIdx p) = some ds) (h5 : ic.2.fl = true) (h6 : m (insC p ic.2 (ds ++ dds)) = .val (r, Z)) (h7 : ioAt p Z = some cl) (h8 : Γ1.set q (mkS ic.1 cl) = Γ2) :
    xCallC m p dds k Γ = .val (r, Γ2) := by rw [x_callC h1 h2 h3 h4 h5 h6 h7, h8]
local macro_rules
  | `(tactic| apply_mod_cast $h) => `(tactic| (apply e_xd; apply x_callE; (· symm_saturate); (· rfl); (· rfl); (· rfl); (· rfl); (· exact $h); (· rfl); (· rfl)))
end PD
section
open PySem L2 PD
local macro_rules
  | `(tactic| apply_mod_cast $h) => `(tactic| (apply e_xd; apply x_callE; (· symm_saturate); (· rfl); (· rfl); (· rfl); (· rfl); (· exact $h); (· rfl); (· rfl)))
set_option linter.all false
set_option maxRecDepth 100000
set_option autoImplicit false
namespace PD
open PySem L2
theorem bitsFrom_fuel : ∀ {n m a x : Nat}, x < n → x < m → bitsFrom a n x = bitsFrom a m x
  | 0, _, _, _, h, _ => absurd h (by omega)
  | _, 0, _, _, _, h => absurd h (by omega)
  | n + 1, m + 1, a, x, h1, h2 => by
    unfold bitsFrom
    by_cases hx : x = 0
    · rw [if_pos hx, if_pos hx]
    · rw [if_neg hx, if_neg hx, bitsFrom_fuel (n := n) (m := m) (by omega) (by omega)]
def bMakesIn : DS := (bSeq (bSetX 1 (xC (nL (dLst dA0)))) (bSeq (bSet 2 (dC (.int 0))) (bSeq (bWhile [] (fun _ => 1000000) (dTst (dCmp (kI fun i j => decide (j < i)) (dVar 0) (dC (.int 0)))) (bSeq (bIf (dTst (dCmp kEq (dI kAnd (dVar 0) (dC (.int 1))) (dC (.int 1)))) (bSeq (bExpr (dLm 1 qAppend (dAc (dFrz (dVar 2)) dA0))) bNil) bNil) (bSeq (bSet 0 (dI kShr (dVar 0) (dC (.int 1)))) (bSeq (bInc 2 (dC (.int 1))) bNil)))) (bSeq (bRet (dB kTuple (dAc (dVar 1) dA0))) bNil))))
theorem makesIn_q (n : Nat) (mask : Nat) (hn : n ≤ 1000) (hm : mask < 2 ^ n) : runB 3 1 bMakesIn [.d (.int (mask : Nat))] = .val (.d (dT (bitsFrom 0 (mask + 1) mask)), [.un]) := by
  refine ok_eq (ok_run rfl ?_)
  unfold bMakesIn
  apply w_setX
  · symm_saturate
  apply w_set
  · symm_saturate
  refine w_while (fun k Γ => ∃ (x a : Nat) (fd : List Int), x < 2 ^ k ∧ k ≤ n ∧ fd.length + k ≤ n ∧ fd ++ bitsFrom a (x + 1) x = bitsFrom 0 (mask + 1) mask ∧ Γ = [.dat true (.int (x : Nat)), .own (.lst (fd.map PyData.int)), .dat true (.int (a : Nat))]) n (by omega) ⟨mask, 0, [], hm, by omega, by simp, by simp, rfl⟩ ?_
  rintro k Γ ⟨x, a, fd, h1, h2, h3, h4, rfl⟩
  refine ⟨decide ((0 : Int) < (x : Nat)), _, t_tst (e_cmp (e_var rfl) e_C k_I), fun hz => ?_, fun hz => ?_⟩
  · have hx : x ≠ 0 := by have := of_decide_eq_true hz; omega
    have hk : k ≠ 0 := fun e => by subst e; simp at h1; omega
    have e1 : bitsFrom a (x + 1) x = (if x % 2 = 1 then [(a : Int)] else []) ++ bitsFrom (a + 1) x (x / 2) := by
      conv => lhs; unfold bitsFrom
      rw [if_neg hx]
    have e2 : bitsFrom (a + 1) x (x / 2) = bitsFrom (a + 1) (x / 2 + 1) (x / 2) := bitsFrom_fuel (by omega) (by omega)
    have hand : Builtin.bitAnd ((x : Nat) : Int) 1 = ((x % 2 : Nat) : Int) := by
      rw [band_pos (by omega) (by decide)]
      simp [Nat.and_one_is_mod]
    have hdiv : ((x : Nat) : Int) / 2 ^ (1 : Int).toNat = ((x / 2 : Nat) : Int) := by simp
    have tl : ∀ fd2 : List Int, fd2 ++ bitsFrom (a + 1) (x / 2 + 1) (x / 2) = bitsFrom 0 (mask + 1) mask → fd2.length ≤ fd.length + 1 → W (bSeq (bSet 0 (dI kShr (dVar 0) (dC (.int 1)))) (bSeq (bInc 2 (dC (.int 1))) bNil)) [.dat true (.int (x : Nat)), .own (.lst (fd2.map PyData.int)), .dat true (.int (a : Nat))]
        (fun w Γ2 => match w with
          | .nx => ∃ m, m < k ∧ ∃ (x a : Nat) (fd : List Int), x < 2 ^ m ∧ m ≤ n ∧ fd.length + m ≤ n ∧ fd ++ bitsFrom a (x + 1) x = bitsFrom 0 (mask + 1) mask ∧ wipeG Γ2 [] = [.dat true (.int (x : Nat)), .own (.lst (fd.map PyData.int)), .dat true (.int (a : Nat))]
          | .ct => ∃ m, m < k ∧ ∃ (x a : Nat) (fd : List Int), x < 2 ^ m ∧ m ≤ n ∧ fd.length + m ≤ n ∧ fd ++ bitsFrom a (x + 1) x = bitsFrom 0 (mask + 1) mask ∧ wipeG Γ2 [] = [.dat true (.int (x : Nat)), .own (.lst (fd.map PyData.int)), .dat true (.int (a : Nat))]
          | .bk => W (bSeq (bRet (dB kTuple (dAc (dVar 1) dA0))) bNil) (wipeG Γ2 []) (fun w Γ => ∃ r Z, fwR w = some r ∧ cellsAt [.d (.int (mask : Nat))] Γ = some Z ∧ (r, Z) = (Rs.d (dT (bitsFrom 0 (mask + 1) mask)), [.un]))
          | .rt s => ∃ r Z, fwR (.rt s) = some r ∧ cellsAt [.d (.int (mask : Nat))] Γ2 = some Z ∧ (r, Z) = (Rs.d (dT (bitsFrom 0 (mask + 1) mask)), [.un])) := by
      intro fd2 hfd hlen
      apply w_set
      · apply e_I
        · exact e_var rfl
        · exact e_C
        · exact k_shr rfl
      apply w_inc
      · rfl
      · exact e_C
      obtain ⟨j, rfl⟩ : ∃ j, k = j + 1 := ⟨k - 1, by omega⟩
      refine w_nil ⟨j, by omega, x / 2, a + 1, fd2, by rw [Nat.pow_succ] at h1; omega, by omega, by omega, hfd, ?_⟩
      rw [hdiv]
      rfl
    apply w_if
    · apply t_tst
      apply e_cmp
      · apply e_I
        · exact e_var rfl
        · exact e_C
        · exact k_and
      · exact e_C
      · exact k_eqI
    · intro hz2
      have hz2 : x % 2 = 1 := by
        have := of_decide_eq_true hz2
        rw [hand] at this
        omega
      apply w_seqA
      apply w_expr
      · apply e_app
        · rfl
        · exact e_var rfl
        · rfl
        · exact ltS_of (by rw [List.length_map]; omega)
      apply w_seqN
      have := tl (fd ++ [(a : Int)]) (by rw [← h4, e1, if_pos hz2, e2, List.append_assoc]) (by simp)
      rw [List.map_append] at this
      exact this
    · intro hz2
      have hz2 : x % 2 ≠ 1 := by
        have := of_decide_eq_false hz2
        rw [hand] at this
        omega
      apply w_seqN
      exact tl fd (by rw [← h4, e1, if_neg hz2, e2]; rfl) (by omega)
  · have hx : x = 0 := by have := of_decide_eq_false hz; omega
    subst hx
    have : fd = bitsFrom 0 (mask + 1) mask := by rw [← h4]; simp [bitsFrom]
    subst this
    apply w_ret
    · apply e_B
      · symm_saturate
      · exact k_tup rfl
    exact ⟨_, _, rfl, rfl, rfl⟩
end PD
set_option linter.all false
set_option maxRecDepth 100000
set_option autoImplicit false
namespace PD
open PySem L2
theorem w_put {Γ Γ1 Γ2 : List Sl} {fe fi : DF} {r : DS} {m : Nat} {v kk : PyData} {fr : Bool} {c0 c : Bool × Cl} {c' : Cl} {P : Fw → List Sl → Prop} (h1 : dFrz fe Γ = .val (.d true v, Γ1)) (h2 : cellC Γ1 m = some c0) (h3 : fi Γ1 = .val (.d fr kk, Γ2)) (h4 : cellC Γ2 m = some c) (h5 : putC c.2 kk v = some c') (h : W r (Γ2.set m (mkS c.1 c')) P) : W (bSeq (bPut m fe fi) r) Γ P := w_one ⟨_, by
  unfold bPut
  rw [h1, bind_val, h2, ofO_some, bind_val, h3, bind_val, h4, ofO_some, bind_val]
  simp only [h5]
  rfl, h⟩
abbrev dB1 (bs : List Bool) : PyData := .list (bs.map PyData.bool)
theorem ixN_nat {n j : Nat} (h : j < n) : ixN n (j : Int) = some j := by
  unfold ixN
  rw [if_pos (by omega), if_pos (by omega)]
  simp
theorem at_nat {α : Type} {xs : List α} {f : α → PyData} {j : Nat} {x : α} (h : xs[j]? = some x) : atI (xs.map f) (j : Int) = some (f x) := atI_nat (by rw [List.getElem?_map, h]; rfl)
def Reach (net : List (List Int)) (rs : List (List Bool)) : Prop := rs.length = net.length ∧ ∀ (i : Nat) (row : List Bool), rs[i]? = some row → RowOk net.length row (Anc net i)
end PD
set_option linter.all false
set_option maxRecDepth 100000
set_option autoImplicit false
namespace PD
open PySem L2
theorem filt_sum (p : Int → Bool) : ∀ ms : List Int, (ms.filter p).length + (ms.filter fun x => !p x).length = ms.length
  | [] => rfl
  | x :: ms => by
    have := filt_sum p ms
    cases h : p x <;> simp [h] <;> omega
end PD
set_option linter.all false
set_option maxRecDepth 100000
set_option autoImplicit false
namespace PD
open PySem L2
theorem i_zipX {Γ Γ1 Γ2 : List Sl} {f g : DF} {a b : AV} {ds es : List PyData} {f1 f2 : Bool} (h1 : f Γ = .val (a, Γ1)) (h2 : g Γ1 = .val (b, Γ2)) (h3 : seqA a = some (ds, f1)) (h4 : seqA b = some (es, f2)) : iZipX f g Γ = .val ((zipD ds es, f1 && f2), Γ2) := by
  unfold iZipX
  rw [h1, bind_val, h2, bind_val, h3, ofO_some, bind_val, h4]
  rfl
end PD
set_option linter.all false
set_option autoImplicit false
namespace PD
open PySem L2
def uBitsOf : List Ar → R (Rs × List Sl) := runB 6 1 bBitsOf
def uMakesIn : List Ar → R (Rs × List Sl) := runB 3 1 bMakesIn
end PD
set_option linter.all false
set_option maxRecDepth 100000
set_option autoImplicit false
namespace PD
open PySem L2
section
variable {Γ Γ1 Γ2 Γ3 : List Sl} {f g h : DF} {k : DA} {n : DN} {c : DC} {x : DX} {t t2 : DT} {fr fr2 z z2 : Bool} {d : PyData} {i j : Int} {ds es : List PyData} {a b : AV} {as : List AV} {P : Fw → List Sl → Prop} {r : DS} {m : Nat}
theorem e_x {s : Rs} (h1 : x Γ = .val (s, Γ1)) (h2 : rsF s = some d) : eX x Γ = .val (.d true d, Γ1) := by
  cases s with
  | d y => cases h2; exact e_xd h1
  | c y =>
    have h2 : frzC y = some d := h2
    unfold eX; rw [h1, bind_val]
    show ((R.ofO (frzC y)).bind fun e => R.val (AV.d true e, Γ1)) = _
    rw [h2]; rfl
theorem w_ifN {b c2 : DS} (h1 : t Γ = .val (z, Γ1)) (hz : z = false) (h : W (bSeq c2 r) Γ1 P) : W (bSeq (bIf t b c2) r) Γ P := w_if h1 (fun e => by rw [hz] at e; cases e) fun _ => h
theorem w_ifY {b c2 : DS} (h1 : t Γ = .val (z, Γ1)) (hz : z = true) (h : W (bSeq b r) Γ1 P) : W (bSeq (bIf t b c2) r) Γ P := w_if h1 (fun _ => h) (fun e => by rw [hz] at e; cases e)
theorem w_ifB {b c2 : DS} (h1 : t Γ = .val (z, Γ1)) (hT : z = true → W (bSeq b r) Γ1 P) (hF : z = false → W (bSeq c2 r) Γ1 P) : W (bSeq (bIf t b c2) r) Γ P := w_if h1 hT hF
theorem w_ifJ {b c2 : DS} {S : Type} (Rel : S → Prop) (sh : S → List Sl) (h1 : t Γ = .val (z, Γ1)) (hT : z = true → W b Γ1 fun w Γ2 => match w with
      | .nx => ∃ s, Γ2 = sh s ∧ Rel s
      | w => P w Γ2) (hF : z = false → W c2 Γ1 fun w Γ2 => match w with
      | .nx => ∃ s, Γ2 = sh s ∧ Rel s
      | w => P w Γ2) (h : ∀ s, Rel s → W r (sh s) P) : W (bSeq (bIf t b c2) r) Γ P := by
  refine w_if h1 (fun e => w_seq ((hT e).mono fun z hz => ?_)) (fun e => w_seq ((hF e).mono fun z hz => ?_))
  · obtain ⟨w, Γ2⟩ := z
    cases w with
    | nx => obtain ⟨s, h2, h3⟩ := hz; have h2 : Γ2 = sh s := h2; subst h2; exact h s h3
    | bk => exact hz
    | ct => exact hz
    | rt q => exact hz
  · obtain ⟨w, Γ2⟩ := z
    cases w with
    | nx => obtain ⟨s, h2, h3⟩ := hz; have h2 : Γ2 = sh s := h2; subst h2; exact h s h3
    | bk => exact hz
    | ct => exact hz
    | rt q => exact hz
theorem w_forL {α : Type} {enc : α → PyData} {is : List Nat} {gg : DG} {it : DI} {b : DS} (xs : List α) {S : Type} (Rel : Nat → S → Prop) (sh : S → List Sl) (s0 : S) (h1 : it Γ = .val ((xs.map enc, fr), Γ1)) (h0 : wipeG Γ1 is = sh s0) (hr : Rel 0 s0)
    (hb : ∀ (i : Nat) (x : α) (s : S), xs[i]? = some x → Rel i s → ∃ Γ1, gg fr (enc x) (sh s) = some Γ1 ∧ W b Γ1 fun w Γ2 => match w with
      | .nx => ∃ s', wipeG Γ2 is = sh s' ∧ Rel (i + 1) s'
      | .ct => ∃ s', wipeG Γ2 is = sh s' ∧ Rel (i + 1) s'
      | .bk => W r (wipeG Γ2 is) P
      | .rt q => P (.rt q) Γ2) (hd : ∀ s, Rel xs.length s → W r (sh s) P) : W (bSeq (bFor is gg it b) r) Γ P := by
  refine w_for (fun i Γ => ∃ s, Γ = sh s ∧ Rel i s) h1 ⟨s0, h0, hr⟩ ?_ ?_
  · rintro i d Γ hd ⟨s, rfl, hs⟩
    obtain ⟨x, hx, rfl⟩ := gmap hd
    exact hb i x s hx hs
  · rintro Γ ⟨s, rfl, hs⟩
    rw [List.length_map] at hs
    exact hd s hs
theorem w_forR {is : List Nat} {gg : DG} {it : DI} {b : DS} {N : Int} {S : Type} (Rel : Nat → S → Prop) (sh : S → List Sl) (s0 : S) (h1 : it Γ = .val (((rng 0 N).map PyData.int, fr), Γ1)) (h0 : wipeG Γ1 is = sh s0) (hr : Rel 0 s0)
    (hb : ∀ (i : Nat) (s : S), (i : Int) < N → Rel i s → ∃ Γ1, gg fr (.int (i : Nat)) (sh s) = some Γ1 ∧ W b Γ1 fun w Γ2 => match w with
      | .nx => ∃ s', wipeG Γ2 is = sh s' ∧ Rel (i + 1) s'
      | .ct => ∃ s', wipeG Γ2 is = sh s' ∧ Rel (i + 1) s'
      | .bk => W r (wipeG Γ2 is) P
      | .rt q => P (.rt q) Γ2) (hd : ∀ s, Rel N.toNat s → W r (sh s) P) : W (bSeq (bFor is gg it b) r) Γ P := by
  refine w_forL (rng 0 N) Rel sh s0 h1 h0 hr ?_ ?_
  · intro i x s hx hs
    obtain ⟨rfl, hi⟩ := rng_at hx
    exact hb i s hi hs
  · intro s hs
    rw [rng_len] at hs
    exact hd s (by simpa using hs)
theorem w_forE {α : Type} {enc : α → PyData} {is : List Nat} {gg : DG} {it : DI} {b : DS} (xs : List α) {S : Type} (Rel : Nat → S → Prop) (sh : S → List Sl) (s0 : S) (h1 : it Γ = .val ((enumD (xs.map enc), fr), Γ1)) (h0 : wipeG Γ1 is = sh s0) (hr : Rel 0 s0)
    (hb : ∀ (i : Nat) (x : α) (s : S), xs[i]? = some x → Rel i s → ∃ Γ1, gg fr (.tuple [.int (i : Nat), enc x]) (sh s) = some Γ1 ∧ W b Γ1 fun w Γ2 => match w with
      | .nx => ∃ s', wipeG Γ2 is = sh s' ∧ Rel (i + 1) s'
      | .ct => ∃ s', wipeG Γ2 is = sh s' ∧ Rel (i + 1) s'
      | .bk => W r (wipeG Γ2 is) P
      | .rt q => P (.rt q) Γ2) (hd : ∀ s, Rel xs.length s → W r (sh s) P) : W (bSeq (bFor is gg it b) r) Γ P := by
  refine w_for (fun i Γ => ∃ s, Γ = sh s ∧ Rel i s) h1 ⟨s0, h0, hr⟩ ?_ ?_
  · rintro i d Γ hd ⟨s, rfl, hs⟩
    obtain ⟨y, hy, rfl⟩ := enumD_at hd
    obtain ⟨x, hx, rfl⟩ := gmap hy
    exact hb i x s hx hs
  · rintro Γ ⟨s, rfl, hs⟩
    rw [enumD_len, List.length_map] at hs
    exact hd s hs
theorem k_lenI {α : Type} {enc : α → PyData} {xs : List α} (h : rdD Γ a = some (.list (xs.map enc))) : kLen Γ [a] = .val (.d true (.int (xs.length : Nat))) := by rw [k_lenL h, List.length_map]
theorem k_lenJ {α : Type} {enc : α → PyData} {xs : List α} (h : rdD Γ a = some (.tuple (xs.map enc))) : kLen Γ [a] = .val (.d true (.int (xs.length : Nat))) := by rw [k_lenT h, List.length_map]
theorem k_mx2 : kMax2 Γ [.d fr (.int i), .d fr2 (.int j)] = .val (.d true (.int (max2 i j))) := rfl
theorem k_mn2 : kMin2 Γ [.d fr (.int i), .d fr2 (.int j)] = .val (.d true (.int (min2 i j))) := rfl
end
end PD
set_option linter.all false
set_option maxRecDepth 100000
set_option autoImplicit false
namespace PD
open PySem L2
theorem filt_yes {α : Type} (xs : List α) : xs.filter (fun _ => true) = xs := List.filter_eq_self.mpr fun _ _ => rfl
theorem n_map {α : Type} {enc : α → PyData} (xs : List α) (v : α → PyData) {vs : List Nat} {g : DG} {it : DI} {e : DF} {Γ Γ1 Γ0 : List Sl} {fr : Bool} (h1 : it Γ = .val ((xs.map enc, fr), Γ1)) (hs : xs.length < 2 ^ 20) (h0 : wipeG Γ1 vs = Γ0)
    (hb : ∀ x ∈ xs, ∃ Γ2, g fr (enc x) Γ0 = some Γ2 ∧ wipeG Γ2 vs = Γ0 ∧ e Γ2 = .val (.d true (v x), Γ2)) : nComp vs g it tYes e Γ = .val (xs.map v, Γ0) := by
  have := n_comp xs (fun _ => true) v h1 hs h0 (t := tYes) (e := e) fun x hx => by
    obtain ⟨Γ2, q1, q2, q3⟩ := hb x hx
    exact ⟨Γ2, q1, q2, rfl, fun _ => q3⟩
  rw [filt_yes] at this
  exact this
theorem e_ap {Γ Γ1 : List Sl} {f : DF} {d : PyData} {ds es : List PyData} {m : Nat} {io : Bool} (h0 : cellL Γ m = some (io, es)) (h1 : dFrz f Γ = .val (.d true d, Γ1)) (h2 : cellL Γ1 m = some (io, ds)) (h3 : ltS ds = true) : dLm m qAppend (dAc (dFrz f) dA0) Γ = .val (.d true .none, Γ1.set m (mkS io (.lst (ds ++ [d])))) := by
  unfold dLm
  rw [h0, ofO_some, bind_val, a_cons h1 a_nil, bind_val, h2, ofO_some, bind_val]
  show ((qAppend ds [.d true d]).bind _) = _
  unfold qAppend
  simp only [h3]
  rfl
theorem ltS_map {α β : Type} {f : α → β} {xs : List α} (h : xs.length < 2 ^ 20) : ltS (xs.map f) = true := ltS_of (by rw [List.length_map]; exact h)
theorem szB_map {α β : Type} {f : α → β} {xs : List α} (h : xs.length < 2 ^ 20) : szB (xs.map f) = true := szB_of (by rw [List.length_map]; exact h)
section
variable {Γ : List Sl} {a b : AV} {α : Type} [DecidableEq α] {enc : α → PyData} {k : Nat} {x y : α}
theorem k_eqT (E : EqT enc k) (hk : k ≤ 64) (h1 : rdD Γ a = some (enc x)) (h2 : rdD Γ b = some (enc y)) : kEq Γ a b = .val (decide (x = y)) := k_eq h1 h2 (E.sh hk x) (E.sh hk y) (E.eq x y)
theorem k_neT (E : EqT enc k) (hk : k ≤ 64) (h1 : rdD Γ a = some (enc x)) (h2 : rdD Γ b = some (enc y)) : kNe Γ a b = .val (!decide (x = y)) := k_ne h1 h2 (E.sh hk x) (E.sh hk y) (E.eq x y)
end
abbrev dKV (kvs : List (Int × PyData)) : List (PyData × PyData) := kvs.map fun z => (PyData.int z.1, z.2)
def lookI (kvs : List (Int × PyData)) (k : Int) : Option PyData := (kvs.find? fun z => decide (z.1 = k)).map (·.2)
def putI (kvs : List (Int × PyData)) (k : Int) (v : PyData) : List (Int × PyData) := if kvs.any (fun z => decide (z.1 = k)) then kvs.map (fun z => if z.1 = k then (z.1, v) else z) else kvs ++ [(k, v)]
theorem getD_kv (kvs : List (Int × PyData)) (k : Int) : getD (dKV kvs) (.int k) = lookI kvs k := by
  unfold getD lookI
  rw [List.find?_map, Option.map_map]
  rfl
theorem lookI_nil (k : Int) : lookI [] k = none := rfl
theorem lookI_none {kvs : List (Int × PyData)} {k : Int} : lookI kvs k = none ↔ ∀ v, (k, v) ∉ kvs := by
  unfold lookI
  rw [Option.map_eq_none_iff, List.find?_eq_none]
  constructor
  · intro h v hv
    exact h _ hv (by simp)
  · intro h z hz e
    have e : z.1 = k := by simpa using e
    exact h z.2 (by rw [← e]; exact hz)
theorem lookI_cons (z : Int × PyData) (kvs : List (Int × PyData)) (k : Int) : lookI (z :: kvs) k = if z.1 = k then some z.2 else lookI kvs k := by
  unfold lookI
  rw [List.find?_cons]
  by_cases h : z.1 = k <;> simp [h]
theorem lookI_snoc (kvs : List (Int × PyData)) (a : Int) (v : PyData) (k : Int) : lookI (kvs ++ [(a, v)]) k = if (lookI kvs k).isSome then lookI kvs k else if a = k then some v else none := by
  induction kvs with
  | nil => simp [lookI_cons, lookI_nil]
  | cons z r ih =>
    rw [List.cons_append, lookI_cons, lookI_cons, ih]
    by_cases h : z.1 = k <;> simp [h]
theorem any_lookI (kvs : List (Int × PyData)) (k : Int) : kvs.any (fun z => decide (z.1 = k)) = (lookI kvs k).isSome := by
  induction kvs with
  | nil => rfl
  | cons z r ih => rw [List.any_cons, lookI_cons, ih]; by_cases h : z.1 = k <;> simp [h]
theorem lookI_put (kvs : List (Int × PyData)) (a : Int) (v : PyData) (k : Int) : lookI (putI kvs a v) k = if k = a then some v else lookI kvs k := by
  unfold putI
  rw [any_lookI]
  split
  · rename_i hs
    induction kvs with
    | nil => simp [lookI_nil] at hs
    | cons z r ih =>
      rw [List.map_cons, lookI_cons, lookI_cons]
      rw [lookI_cons] at hs
      by_cases h : z.1 = a
      · subst h
        simp only [if_true]
        by_cases h2 : z.1 = k
        · subst h2; simp
        · rw [if_neg h2, if_neg h2, if_neg (Ne.symm h2)]
          by_cases h3 : (lookI r z.1).isSome
          · rw [ih h3, if_neg (Ne.symm h2)]
          · have hn : lookI r z.1 = none := by simpa using h3
            have : r.map (fun y => if y.1 = z.1 then (y.1, v) else y) = r := by
              have e2 : r.map (fun y => if y.1 = z.1 then (y.1, v) else y) = r.map id := List.map_congr_left fun y hy => by
                rw [if_neg]
                · rfl
                · intro q
                  exact lookI_none.mp hn y.2 (by rw [← q]; exact hy)
              rw [e2, List.map_id]
            rw [this]
      · rw [if_neg h] at hs
        simp only [if_neg h]
        rw [ih hs]
        by_cases h2 : z.1 = k
        · subst h2; simp [h]
        · simp [h2]
  · rename_i hs
    rw [lookI_snoc]
    by_cases h : k = a
    · subst h; simp at hs; simp [hs]
    · rw [if_neg h, if_neg (Ne.symm h)]
      split
      · rfl
      · rename_i h2; simp at h2; rw [h2]
theorem putI_new {kvs : List (Int × PyData)} {a : Int} (v : PyData) (h : lookI kvs a = none) : putI kvs a v = kvs ++ [(a, v)] := by
  unfold putI
  rw [any_lookI, h]
  simp
section
variable {Γ : List Sl} {fr fr2 io : Bool} {k : Int} {kvs : List (Int × PyData)} {m : Nat} {v : PyData}
theorem k_ninKS (h : dicA Γ (.s m) = some (true, .k, dKV kvs)) : kNinB Γ (.d fr (.int k)) (.s m) = .val (!(lookI kvs k).isSome) := by
  unfold kNinB kInB
  simp only [h, rdD, getD_kv]
  rfl
theorem k_inKS (h : dicA Γ (.s m) = some (true, .k, dKV kvs)) : kInB Γ (.d fr (.int k)) (.s m) = .val (lookI kvs k).isSome := by
  unfold kInB
  simp only [h, rdD, getD_kv]
  rfl
theorem putC_lst {ds : List PyData} {j : Nat} (h : j < ds.length) : putC (.lst ds) (.int (j : Nat)) v = some (.lst (ds.set j v)) := by
  unfold putC
  simp only [ixN_nat h]
  rfl
end
theorem e_pop {Γ : List Sl} {m : Nat} {io : Bool} {ds : List PyData} {y : PyData} (h : cellL Γ m = some (io, ds ++ [y])) : dLm m qPop dA0 Γ = .val (.d true y, Γ.set m (mkS io (.lst ds))) := by
  unfold dLm
  rw [h, ofO_some, bind_val, a_nil, bind_val, h, ofO_some, bind_val]
  unfold qPop
  simp only [List.getLast?_concat, List.dropLast_concat]
  rfl
theorem e_ins {Γ Γ1 : List Sl} {m : Nat} {io : Bool} {es ds : List PyData} {fi fx : DF} {n : Int} {y : PyData} {fr : Bool} (h0 : cellL Γ m = some (io, es)) (h1 : dAc fi (dAc (dFrz fx) dA0) Γ = .val ([.d fr (.int n), .d true y], Γ1)) (h2 : cellL Γ1 m = some (io, ds)) (h3 : cIns ds n = true) : dLm m qInsert (dAc fi (dAc (dFrz fx) dA0)) Γ = .val (.d true .none, Γ1.set m (mkS io (.lst (insI ds n y)))) := by
  unfold dLm
  rw [h0, ofO_some, bind_val, h1, bind_val, h2, ofO_some, bind_val]
  unfold qInsert
  simp only [h3]
  rfl
theorem shS {a : Str} (h : PyData.strOk a = true) : SeqAt.shaped (.str a) = true := by
  unfold SeqAt.shaped
  rw [PyData.canLay0, h]
  rfl
theorem k_neS {Γ : List Sl} {f1 f2 : Bool} {a b : Str} (h1 : PyData.strOk a = true := by decide +kernel) (h2 : PyData.strOk b = true := by decide +kernel) : kNe Γ (.d f1 (.str a)) (.d f2 (.str b)) = .val (!decide (a = b)) := k_ne rfl rfl (shS h1) (shS h2) (by show (a == b) = _; rfl)
theorem k_eqS {Γ : List Sl} {f1 f2 : Bool} {a b : Str} (h1 : PyData.strOk a = true := by decide +kernel) (h2 : PyData.strOk b = true := by decide +kernel) : kEq Γ (.d f1 (.str a)) (.d f2 (.str b)) = .val (decide (a = b)) := k_eq rfl rfl (shS h1) (shS h2) (by show (a == b) = _; rfl)
theorem x_callM {Γ Γ1 : List Sl} {k : DA} {as : List AV} {ars : List Ar} {ms : List Bool} {m : List Ar → R (Rs × List Sl)} {dds : List PyData} {r : Rs} {Z : List Sl} (h1 : k Γ = .val (as, Γ1)) (h2 : rdAs Γ1 none ms as = some ars) (h3 : m (ars ++ dds.map Ar.d) = .val (r, Z)) : xCallM m ms dds k Γ = .val (r, Γ1) := by
  unfold xCallM; rw [h1, bind_val, h2, ofO_some, bind_val, h3]; rfl
end PD
set_option linter.all false
set_option maxRecDepth 100000
set_option autoImplicit false
namespace PD
open PySem L2
end PD
set_option linter.all false
set_option maxRecDepth 100000
set_option autoImplicit false
namespace PD
open PySem L2
end PD
set_option linter.all false
set_option maxRecDepth 100000
set_option autoImplicit false
namespace PD
open PySem L2
def b_p_some_of : DS := (bSeq (bIf (dTst (dCmp kIs (dVar 0) (dC .none))) (bSeq (bRetC (nL (dLst dA0))) bNil) bNil) (bSeq (bRetC (nL (dBN kList (dAc (dVar 0) dA0)))) bNil))
def u_p_some_of : List Ar → R (Rs × List Sl) := runB 1 1 b_p_some_of
end PD
set_option linter.all false
set_option maxRecDepth 100000
set_option autoImplicit false
namespace PD
open PySem L2
def b_qdraw : DS := (bSeq (bIf (dTst (dCmp (kI fun i j => decide (j < i)) (dIxB (dVar 0) (dC (.int 0))) (dC (.int 0)))) (bSeq (bSet 2 (dI kMod (dIxB (dVar 0) (dC (.int 0))) (dVar 1))) (bSeq (bPut 0 (dI kDiv (dIxB (dVar 0) (dC (.int 0))) (dVar 1)) (dC (.int 0))) (bSeq (bRet (dVar 2)) bNil))) bNil) (bSeq (bPut 0 (dAdd (dIxB (dVar 0) (dC (.int 1))) (dC (.int 1))) (dC (.int 1))) (bSeq (bSet 3 (dI kMod (dI kMul (dAdd (dIxB (dVar 0) (dC (.int 2))) (dI kMul (dI kMul (dC (.int 104729)) (dIxB (dVar 0) (dC (.int 1)))) (dIxB (dVar 0) (dC (.int 1))))) (dC (.int 48271))) (dC (.int 2147483647)))) (bSeq (bRet (dI kMod (dI kDiv (dI kMod (dAdd (dI kMul (dVar 3) (dVar 3)) (dI kMul (dC (.int 69621)) (dVar 3))) (dC (.int 2147483629))) (dC (.int 64))) (dVar 1))) bNil))))
def u_qdraw : List Ar → R (Rs × List Sl) := runB 4 2 b_qdraw
def b_qis_elder : DS := (bSeq (bIf (dTst (dCmp (kI fun i j => decide (i < j)) (dVar 1) (dC (.int 4)))) (bSeq (bRet (dCmp kEq (eX (xCallC u_qdraw 0 [] (dAc (dVar 0) (dAc (dIxB (dOfN (dLst (dAc (dC (.int 2)) (dAc (dC (.int 2)) (dAc (dC (.int 3)) (dAc (dC (.int 4)) dA0)))))) (dVar 1)) dA0)))) (dC (.int 0)))) bNil) bNil) (bSeq (bIf (dTst (dCmp kEq (dVar 1) (dC (.int 6)))) (bSeq (bRet (dAnd (dCmp kEq (dI kMod (dVar 2) (dC (.int 2))) (dI kMod (dVar 3) (dC (.int 2)))) (dCmp kEq (eX (xCallC u_qdraw 0 [] (dAc (dVar 0) (dAc (dC (.int 2)) dA0)))) (dC (.int 0))))) bNil) bNil) (bSeq (bRet (dCmp kEq (dVar 3) (dIxB (dOfN (dLst (dAc (dI kSub (dVar 2) (dC (.int 1))) (dAc (dC (.int 0)) (dAc (dC (.int 0)) (dAc (dI kDiv (dI kSub (dVar 2) (dC (.int 1))) (dC (.int 2))) dA0)))))) (dI kSub (dVar 1) (dC (.int 4)))))) bNil)))
def u_qis_elder : List Ar → R (Rs × List Sl) := runB 4 4 b_qis_elder
def b_qnet : DS := (bSeq (bSet 3 (dFrz (dIxB (dOfN (dLst (dAc (dFrz (dVar 1)) (dAc (dFrz (dVar 2)) dA0)))) (dB kInt (dAc (dCmp kEq (eX (xCallC u_qdraw 0 [] (dAc (dVar 0) (dAc (dC (.int 8)) dA0)))) (dC (.int 5))) dA0))))) (bSeq (bSet 4 (dAdd (dC (.int 1)) (eX (xCallC u_qdraw 0 [] (dAc (dVar 0) (dAc (dVar 3) dA0)))))) (bSeq (bSet 5 (eX (xCallC u_qdraw 0 [] (dAc (dVar 0) (dAc (dC (.int 8)) dA0))))) (bSeq (bSetX 6 (xC (nL (dLst dA0)))) (bSeq (bFor [7] (gN 7) (iRange1 (dVar 4)) (bSeq (bExpr (dLm 6 qAppend (dAc (dFrz (dB kTuple (dAc (dOfN (nComp [8] (gN 8) (iRange1 (dVar 7)) (dTst (eX (xCallC u_qis_elder 0 [] (dAc (dVar 0) (dAc (dVar 5) (dAc (dVar 7) (dAc (dVar 8) dA0))))))) (dFrz (dVar 8)))) dA0))) dA0))) bNil)) (bSeq (bRet (dB kTuple (dAc (dVar 6) dA0))) bNil))))))
def u_qnet : List Ar → R (Rs × List Sl) := runB 9 3 b_qnet
def b_qdeck : DS := (bSeq (bSet 2 (dC (.int 0))) (bSeq (bIf (dTst (dCmp (kI fun i j => decide (i < j)) (dVar 1) (dB kLen (dAc (dVar 0) dA0)))) (bSeq (bSet 2 (dFrz (dIxB (dVar 0) (dVar 1)))) bNil) bNil) (bSeq (bIf (dTst (dCmp (kI fun i j => decide (i < j)) (dVar 2) (dI kPow (dC (.int 10)) (dC (.int 18))))) (bSeq (bRetC (nL (dLst (dAc (dC (.int 0)) (dAc (dC (.int 0)) (dAc (dI kMod (dAdd (dVar 2) (dI kMul (dC (.int 7919)) (dVar 1))) (dC (.int 2147483647))) dA0)))))) bNil) bNil) (bSeq (bRetC (nL (dLst (dAc (dFrz (dVar 2)) (dAc (dC (.int 0)) (dAc (dI kMod (dVar 2) (dC (.int 2147483647))) dA0)))))) bNil))))
def u_qdeck : List Ar → R (Rs × List Sl) := runB 3 2 b_qdeck
def b_qreach : DS := (bSeq (bSetX 1 (xC (nL (dLst dA0)))) (bSeq (bFor [2, 3, 4, 5] (gT2 (gN 2) (gN 3)) (iEnum (dVar 0)) (bSeq (bSet 4 (dOfN (nComp [6] (gN 6) (iRange1 (dB kLen (dAc (dVar 0) dA0))) tYes (dFrz (dCmp kEq (dVar 6) (dVar 2)))))) (bSeq (bFor [5] (gN 5) (iSeq (dVar 3)) (bSeq (bSet 4 (dOfN (nComp [7, 8] (gT2 (gN 7) (gN 8)) (iZipX (dVar 4) (dIxB (dVar 1) (dVar 5))) tYes (dFrz (dOr (dVar 7) (dVar 8)))))) bNil)) (bSeq (bExpr (dLm 1 qAppend (dAc (dFrz (dVar 4)) dA0))) bNil)))) (bSeq (bRetO 1) bNil)))
def u_qreach : List Ar → R (Rs × List Sl) := runB 9 1 b_qreach
def b_qbarred : DS := (bSeq (bSet 2 (eX (xCallC u_qdraw 0 [] (dAc (dVar 0) (dAc (dC (.int 4)) dA0))))) (bSeq (bIf (dTst (dCmp kEq (dVar 2) (dC (.int 0)))) (bSeq (bRetC (nL (dLst dA0))) bNil) bNil) (bSeq (bSetX 3 (xC (nL (dLst dA0)))) (bSeq (bFor [4] (gN 4) (iRange1 (dVar 1)) (bSeq (bIf (dTst (dCmp kEq (eX (xCallC u_qdraw 0 [] (dAc (dVar 0) (dAc (dIxB (dOfN (dLst (dAc (dC (.int 2)) (dAc (dC (.int 2)) (dAc (dC (.int 4)) (dAc (dC (.int 8)) dA0)))))) (dVar 2)) dA0)))) (dC (.int 0)))) (bSeq (bExpr (dLm 3 qInsert (dAc (eX (xCallC u_qdraw 0 [] (dAc (dVar 0) (dAc (dAdd (dB kLen (dAc (dVar 3) dA0)) (dC (.int 1))) dA0)))) (dAc (dFrz (dVar 4)) dA0)))) bNil) bNil) bNil)) (bSeq (bRetC (nL (dCat (dVar 3) (eX (xCut (dVar 3) oNone (oSome (eX (xCallC u_qdraw 0 [] (dAc (dVar 0) (dAc (dC (.int 3)) dA0)))))))))) bNil)))))
def u_qbarred : List Ar → R (Rs × List Sl) := runB 5 2 b_qbarred
end PD
set_option linter.all false
set_option maxRecDepth 100000
set_option autoImplicit false
namespace PD
open PySem L2
def b_p_mask_of : DS := (bSeq (bSet 1 (dC (.int 0))) (bSeq (bFor [2] (gN 2) (iSeq (dVar 0)) (bSeq (bSet 1 (dI kOr (dVar 1) (dI kShl (dC (.int 1)) (dVar 2)))) bNil)) (bSeq (bRet (dVar 1)) bNil)))
def u_p_mask_of : List Ar → R (Rs × List Sl) := runB 3 1 b_p_mask_of
end PD
set_option linter.all false
set_option maxRecDepth 100000
set_option autoImplicit false
namespace PD
open PySem L2
end PD
set_option linter.all false
set_option maxRecDepth 100000
set_option autoImplicit false
namespace PD
open PySem L2
def b_qsame : Nat → DS
  | 0 => bBad
  | n + 1 => (bSeq (bIf (dTst (dIsi [.list, .tuple] (dVar 1))) (bSeq (bIf (dTor (dTst (dCmp kNe (dIsi [.list] (dVar 1)) (dIsi [.list] (dVar 0)))) (dTst (dCmp kNe (dIsi [.tuple] (dVar 1)) (dIsi [.tuple] (dVar 0))))) (bSeq (bRet (dC (.bool false))) bNil) bNil) (bSeq (bRet (dAnd (dCmp kEq (dB kLen (dAc (dVar 0) dA0)) (dB kLen (dAc (dVar 1) dA0))) (dB kAll (dAc (dOfN (nComp [2, 3] (gT2 (gN 2) (gN 3)) (iZipX (dVar 0) (dVar 1)) tYes (dFrz (eX (xCall (runB 4 2 (b_qsame n)) [] (dAc (dVar 2) (dAc (dVar 3) dA0))))))) dA0)))) bNil)) bNil) (bSeq (bIf (dTst (dCmp kIs (dVar 1) (dC .none))) (bSeq (bRet (dCmp kIs (dVar 0) (dC .none))) bNil) bNil) (bSeq (bIf (dTst (dIsi [.str] (dVar 1))) (bSeq (bRet (dAnd (dIsi [.str] (dVar 0)) (dCmp kEq (dVar 0) (dVar 1)))) bNil) bNil) (bSeq (bRet (dAnd (dIsi [.int] (dVar 0)) (dAnd (dCmp kEq (dIsi [.bool] (dVar 0)) (dIsi [.bool] (dVar 1))) (dCmp kEq (dVar 0) (dVar 1))))) bNil))))
def u_qsame (n : Nat) : List Ar → R (Rs × List Sl) := runB 4 2 (b_qsame n)
end PD
set_option linter.all false
set_option maxRecDepth 100000
set_option autoImplicit false
namespace PD
open PySem L2
end PD
set_option linter.all false
set_option maxRecDepth 100000
set_option autoImplicit false
namespace PD
open PySem L2
def b_qalike_k25 : DS := (bSeq (bFor [4, 5] (gT2 (gN 4) (gN 5)) (iEnum (dVar 0)) (bSeq (bIf (dTand (dTst (dCmp kNinB (dVar 4) (dVar 3))) (dTst (dCmp kNe (dIxB (dVar 5) (dVar 1)) (dIxB (dVar 5) (dVar 2))))) (bSeq (bRet (dC (.bool false))) bNil) bNil) bNil)) (bSeq (bRet (dC (.bool true))) bNil))
def u_qalike_k25 : List Ar → R (Rs × List Sl) := runB 6 4 b_qalike_k25
def b_p_classes : DS := (bSeq (bSet 3 (eX (xCall u_p_some_of [] (dAc (dVar 2) dA0)))) (bSeq (bSet 4 (dOfN (nComp [6, 7] (gT2 (gN 6) (gN 7)) (iEnum (eX (xCall uBitsOf [] (dAc (dVar 0) dA0)))) (dTst (dCmp kNinB (dVar 6) (dVar 3))) (dFrz (dVar 7))))) (bSeq (bSetX 5 (xC nMulN0)) (bSeq (bFor [6] (gN 6) (iSeq (eX (xCall uMakesIn [] (dAc (eX (xCall u_p_mask_of [] (dAc (dVar 1) dA0))) dA0)))) (bSeq (bExpr (dSdaN 5 (dB kTuple (dAc (dOfN (nComp [7] (gN 7) (iSeq (dVar 4)) tYes (dFrz (eX (xCall uIsIn [] (dAc (dVar 7) (dAc (dVar 6) dA0))))))) dA0)) 6)) bNil)) (bSinkN 5 (bSeq (bRetC (nL (nComp [8] (gN 8) (iValN (dFrzK (dVar 5))) tYes (dFrz (dB kTuple (dAc (dVar 8) dA0)))))) bNil))))))
def u_p_classes : List Ar → R (Rs × List Sl) := runB 9 3 b_p_classes
end PD
set_option Elab.async false
set_option linter.all false
set_option maxRecDepth 100000
set_option maxHeartbeats 0
set_option autoImplicit false
namespace PDW
open PySem PySem.Spec PyProof.Rows L2 PD
structure Env (K : PySem.W.Frag) (mg : Str → Option Value) : Prop where
  d_p_law : ∃ f fd, FunD K "law" "law" (defArgs (top 19)) (defBody (top 19)) (defScope (top 19)) [] [] f fd ∧ mg "law" = some (.ref f)
  d_qnet : ∃ f fd, FunD K "_law_net" "_law_net" (defArgs (top 12)) (defBody (top 12)) (defScope (top 12)) [] [] f fd ∧ mg "_law_net" = some (.ref f)
  d_qdraw : ∃ f fd, FunD K "_law_draw" "_law_draw" (defArgs (top 10)) (defBody (top 10)) (defScope (top 10)) [] [] f fd ∧ mg "_law_draw" = some (.ref f)
  d_qis_elder : ∃ f fd, FunD K "_law_is_elder" "_law_is_elder" (defArgs (top 11)) (defBody (top 11)) (defScope (top 11)) [] [] f fd ∧ mg "_law_is_elder" = some (.ref f)
  d_qdeck : ∃ f fd, FunD K "_law_deck" "_law_deck" (defArgs (top 9)) (defBody (top 9)) (defScope (top 9)) [] [] f fd ∧ mg "_law_deck" = some (.ref f)
  d_qreach : ∃ f fd, FunD K "_law_reach" "_law_reach" (defArgs (top 13)) (defBody (top 13)) (defScope (top 13)) [] [] f fd ∧ mg "_law_reach" = some (.ref f)
  d_qmakes : ∃ f fd, FunD K "_law_makes" "_law_makes" (defArgs (top 14)) (defBody (top 14)) (defScope (top 14)) [] [] f fd ∧ mg "_law_makes" = some (.ref f)
  d_qbarred : ∃ f fd, FunD K "_law_barred" "_law_barred" (defArgs (top 16)) (defBody (top 16)) (defScope (top 16)) [] [] f fd ∧ mg "_law_barred" = some (.ref f)
  d_qclasses : ∃ f fd, FunD K "_law_classes" "_law_classes" (defArgs (top 18)) (defBody (top 18)) (defScope (top 18)) [] [] f fd ∧ mg "_law_classes" = some (.ref f)
  d_qalike : ∃ f fd, FunD K "_law_alike" "_law_alike" (defArgs (top 17)) (defBody (top 17)) (defScope (top 17)) [] [] f fd ∧ mg "_law_alike" = some (.ref f)
  d_p_classes : ∃ f fd, FunD K "classes" "classes" (defArgs (top 7)) (defBody (top 7)) (defScope (top 7)) [V.non] [] f fd ∧ mg "classes" = some (.ref f)
  d_p_some_of : ∃ f fd, FunD K "some_of" "some_of" (defArgs (top 4)) (defBody (top 4)) (defScope (top 4)) [] [] f fd ∧ mg "some_of" = some (.ref f)
  d_p_bits_of : ∃ f fd, FunD K "bits_of" "bits_of" (defArgs (top 1)) (defBody (top 1)) (defScope (top 1)) [] [] f fd ∧ mg "bits_of" = some (.ref f)
  d_p_makes_in : ∃ f fd, FunD K "makes_in" "makes_in" (defArgs (top 3)) (defBody (top 3)) (defScope (top 3)) [] [] f fd ∧ mg "makes_in" = some (.ref f)
  d_p_mask_of : ∃ f fd, FunD K "mask_of" "mask_of" (defArgs (top 2)) (defBody (top 2)) (defScope (top 2)) [] [] f fd ∧ mg "mask_of" = some (.ref f)
  d_p_is_in : ∃ f fd, FunD K "is_in" "is_in" (defArgs (top 5)) (defBody (top 5)) (defScope (top 5)) [] [] f fd ∧ mg "is_in" = some (.ref f)
  d_qsame : ∃ f fd, FunD K "_law_same" "_law_same" (defArgs (top 15)) (defBody (top 15)) (defScope (top 15)) [] [] f fd ∧ mg "_law_same" = some (.ref f)
  b_int : mg "int" = none
  b_range : mg "range" = none
  b_tuple : mg "tuple" = none
  b_len : mg "len" = none
  b_enumerate : mg "enumerate" = none
  b_zip : mg "zip" = none
  b_max : mg "max" = none
  b_min : mg "min" = none
  b_list : mg "list" = none
  b_sorted : mg "sorted" = none
  b_set : mg "set" = none
  b_isinstance : mg "isinstance" = none
  b_all : mg "all" = none
  b_str : mg "str" = none
  b_bool : mg "bool" = none
theorem sc_qdraw : FnScope ["_law_deck_here", "_law_most", "_law_found", "_law_mixed"] ["_law_deck_here", "_law_most"] (defScope (top 10)) := ⟨rfl, rfl, rfl, by decide +kernel, rfl, by decide +kernel, by decide +kernel⟩
theorem fo_qdraw {P : Program} {w : World} {K : PySem.W.Frag} {mg : Str → Option Value} {base : Heap} (E : Env K mg) {f : Addr} {fd : FuncData} (F : FunD K "_law_draw" "_law_draw" (defArgs (top 10)) (defBody (top 10)) (defScope (top 10)) [] [] f fd) : FnOk P w K mg base (L2.CX P w) (0 + 1) f fd ["_law_deck_here", "_law_most"] (spU K mg u_qdraw) := by
  refine fn_u (N := ["_law_deck_here", "_law_most", "_law_found", "_law_mixed"]) (ps := ["_law_deck_here", "_law_most"]) (k := 0) F sc_qdraw (b := b_qdraw) (by decide) fun X W h => ?_
  have C := h.cf
  have n0 : (["_law_deck_here", "_law_most", "_law_found", "_law_mixed"] : List Str)[0]? = some ("_law_deck_here" : Str) := rfl
  have v0 : visB (defScope (top 10)) "_law_deck_here" = true := by decide +kernel
  have s0 : Sto X (defScope (top 10)) "_law_deck_here" := sto_c h.fn (by decide +kernel)
  have n1 : (["_law_deck_here", "_law_most", "_law_found", "_law_mixed"] : List Str)[1]? = some ("_law_most" : Str) := rfl
  have v1 : visB (defScope (top 10)) "_law_most" = true := by decide +kernel
  have s1 : Sto X (defScope (top 10)) "_law_most" := sto_c h.fn (by decide +kernel)
  have n2 : (["_law_deck_here", "_law_most", "_law_found", "_law_mixed"] : List Str)[2]? = some ("_law_found" : Str) := rfl
  have v2 : visB (defScope (top 10)) "_law_found" = true := by decide +kernel
  have s2 : Sto X (defScope (top 10)) "_law_found" := sto_c h.fn (by decide +kernel)
  have n3 : (["_law_deck_here", "_law_most", "_law_found", "_law_mixed"] : List Str)[3]? = some ("_law_mixed" : Str) := rfl
  have v3 : visB (defScope (top 10)) "_law_mixed" = true := by decide +kernel
  have s3 : Sto X (defScope (top 10)) "_law_mixed" := sto_c h.fn (by decide +kernel)
  unfold b_qdraw
  exact (cs_cons (c1_if (ct_cmp (ce_gt (ce_ixB C.toCf0 (ce_var C.toCf0 0 n0 (by decide +kernel)) ce_int) ce_int)) (cs_cons (c1_set C.toCf0 2 n2 s2 (ce_mod (ce_ixB C.toCf0 (ce_var C.toCf0 0 n0 (by decide +kernel)) ce_int) (ce_var C.toCf0 1 n1 (by decide +kernel)))) (cs_cons (c1_put C.toCf0 0 n0 v0 (ce_fdiv (ce_ixB C.toCf0 (ce_var C.toCf0 0 n0 (by decide +kernel)) ce_int) (ce_var C.toCf0 1 n1 (by decide +kernel))) ce_int) (cs_cons (c1_ret (ce_var C.toCf0 2 n2 (by decide +kernel))) cs_nil))) cs_nil) (cs_cons (c1_put C.toCf0 0 n0 v0 (ce_add (ce_ixB C.toCf0 (ce_var C.toCf0 0 n0 (by decide +kernel)) ce_int) ce_int) ce_int) (cs_cons (c1_set C.toCf0 3 n3 s3 (ce_mod (ce_mul (ce_add (ce_ixB C.toCf0 (ce_var C.toCf0 0 n0 (by decide +kernel)) ce_int) (ce_mul (ce_mul ce_int (ce_ixB C.toCf0 (ce_var C.toCf0 0 n0 (by decide +kernel)) ce_int)) (ce_ixB C.toCf0 (ce_var C.toCf0 0 n0 (by decide +kernel)) ce_int))) ce_int) ce_int)) (cs_cons (c1_ret (ce_mod (ce_fdiv (ce_mod (ce_add (ce_mul (ce_var C.toCf0 3 n3 (by decide +kernel)) (ce_var C.toCf0 3 n3 (by decide +kernel))) (ce_mul ce_int (ce_var C.toCf0 3 n3 (by decide +kernel)))) ce_int) ce_int) (ce_var C.toCf0 1 n1 (by decide +kernel)))) cs_nil))))
theorem ok_qdraw {P : Program} {w : World} {K : PySem.W.Frag} {mg : Str → Option Value} {base : Heap} (E : Env K mg) : Gv P w K mg base (0 + 1) "_law_draw" [] (spU K mg u_qdraw) := by
  obtain ⟨f, fd, F, hmg⟩ := E.d_qdraw
  exact Gv.of F hmg (fo_qdraw E F) (F.bindsN fun _ _ _ _ _ _ us hl => match us, hl with | [_, _], _ => rfl) .nil
theorem sc_qis_elder : FnScope ["_law_deck_here", "_law_way", "_law_make", "_law_elder"] ["_law_deck_here", "_law_way", "_law_make", "_law_elder"] (defScope (top 11)) := ⟨rfl, rfl, rfl, by decide +kernel, rfl, by decide +kernel, by decide +kernel⟩
theorem fo_qis_elder {P : Program} {w : World} {K : PySem.W.Frag} {mg : Str → Option Value} {base : Heap} (E : Env K mg) {f : Addr} {fd : FuncData} (F : FunD K "_law_is_elder" "_law_is_elder" (defArgs (top 11)) (defBody (top 11)) (defScope (top 11)) [] [] f fd) : FnOk P w K mg base (L2.CX P w) (1 + 1) f fd ["_law_deck_here", "_law_way", "_law_make", "_law_elder"] (spU K mg u_qis_elder) := by
  refine fn_u (N := ["_law_deck_here", "_law_way", "_law_make", "_law_elder"]) (ps := ["_law_deck_here", "_law_way", "_law_make", "_law_elder"]) (k := 1) F sc_qis_elder (b := b_qis_elder) (by decide) fun X W h => ?_
  have C := h.cf
  have c_qdraw := (ok_qdraw (P := P) (w := w) (base := base) E).u h (by omega)
  have n0 : (["_law_deck_here", "_law_way", "_law_make", "_law_elder"] : List Str)[0]? = some ("_law_deck_here" : Str) := rfl
  have v0 : visB (defScope (top 11)) "_law_deck_here" = true := by decide +kernel
  have s0 : Sto X (defScope (top 11)) "_law_deck_here" := sto_c h.fn (by decide +kernel)
  have n1 : (["_law_deck_here", "_law_way", "_law_make", "_law_elder"] : List Str)[1]? = some ("_law_way" : Str) := rfl
  have v1 : visB (defScope (top 11)) "_law_way" = true := by decide +kernel
  have s1 : Sto X (defScope (top 11)) "_law_way" := sto_c h.fn (by decide +kernel)
  have n2 : (["_law_deck_here", "_law_way", "_law_make", "_law_elder"] : List Str)[2]? = some ("_law_make" : Str) := rfl
  have v2 : visB (defScope (top 11)) "_law_make" = true := by decide +kernel
  have s2 : Sto X (defScope (top 11)) "_law_make" := sto_c h.fn (by decide +kernel)
  have n3 : (["_law_deck_here", "_law_way", "_law_make", "_law_elder"] : List Str)[3]? = some ("_law_elder" : Str) := rfl
  have v3 : visB (defScope (top 11)) "_law_elder" = true := by decide +kernel
  have s3 : Sto X (defScope (top 11)) "_law_elder" := sto_c h.fn (by decide +kernel)
  unfold b_qis_elder
  exact (cs_cons (c1_if (ct_cmp (ce_lt (ce_var C.toCf0 1 n1 (by decide +kernel)) ce_int)) (cs_cons (c1_ret (ce_eq C.toCf0 (ce_x (cx_callC C.toCf0 0 c_qdraw (by decide +kernel) (fun _ _ => .nil) (ca_cons (ce_var C.toCf0 0 n0 (by decide +kernel)) (ca_cons (ce_ixB C.toCf0 (ce_ofN (cn_lst (ca_cons ce_int (ca_cons ce_int (ca_cons ce_int (ca_cons ce_int ca_nil)))))) (ce_var C.toCf0 1 n1 (by decide +kernel))) ca_nil)))) ce_int)) cs_nil) cs_nil) (cs_cons (c1_if (ct_cmp (ce_eq C.toCf0 (ce_var C.toCf0 1 n1 (by decide +kernel)) ce_int)) (cs_cons (c1_ret (ce_and (ce_eq C.toCf0 (ce_mod (ce_var C.toCf0 2 n2 (by decide +kernel)) ce_int) (ce_mod (ce_var C.toCf0 3 n3 (by decide +kernel)) ce_int)) (ce_one (ce_eq C.toCf0 (ce_x (cx_callC C.toCf0 0 c_qdraw (by decide +kernel) (fun _ _ => .nil) (ca_cons (ce_var C.toCf0 0 n0 (by decide +kernel)) (ca_cons ce_int ca_nil)))) ce_int)))) cs_nil) cs_nil) (cs_cons (c1_ret (ce_eq C.toCf0 (ce_var C.toCf0 3 n3 (by decide +kernel)) (ce_ixB C.toCf0 (ce_ofN (cn_lst (ca_cons (ce_sub (ce_var C.toCf0 2 n2 (by decide +kernel)) ce_int) (ca_cons ce_int (ca_cons ce_int (ca_cons (ce_fdiv (ce_sub (ce_var C.toCf0 2 n2 (by decide +kernel)) ce_int) ce_int) ca_nil)))))) (ce_sub (ce_var C.toCf0 1 n1 (by decide +kernel)) ce_int)))) cs_nil)))
theorem ok_qis_elder {P : Program} {w : World} {K : PySem.W.Frag} {mg : Str → Option Value} {base : Heap} (E : Env K mg) : Gv P w K mg base (1 + 1) "_law_is_elder" [] (spU K mg u_qis_elder) := by
  obtain ⟨f, fd, F, hmg⟩ := E.d_qis_elder
  exact Gv.of F hmg (fo_qis_elder E F) (F.bindsN fun _ _ _ _ _ _ us hl => match us, hl with | [_, _, _, _], _ => rfl) .nil
theorem sc_qnet : FnScope ["_law_deck_here", "_law_most", "_law_greatest", "_law_bound", "_law_many", "_law_way", "_law_rows", "_law_make", "_law_elder"] ["_law_deck_here", "_law_most", "_law_greatest"] (defScope (top 12)) := ⟨rfl, rfl, rfl, by decide +kernel, rfl, by decide +kernel, by decide +kernel⟩
theorem fo_qnet {P : Program} {w : World} {K : PySem.W.Frag} {mg : Str → Option Value} {base : Heap} (E : Env K mg) {f : Addr} {fd : FuncData} (F : FunD K "_law_net" "_law_net" (defArgs (top 12)) (defBody (top 12)) (defScope (top 12)) [] [] f fd) : FnOk P w K mg base (L2.CX P w) (2 + 1) f fd ["_law_deck_here", "_law_most", "_law_greatest"] (spU K mg u_qnet) := by
  refine fn_u (N := ["_law_deck_here", "_law_most", "_law_greatest", "_law_bound", "_law_many", "_law_way", "_law_rows", "_law_make", "_law_elder"]) (ps := ["_law_deck_here", "_law_most", "_law_greatest"]) (k := 2) F sc_qnet (b := b_qnet) (by decide) fun X W h => ?_
  have C := h.cf
  have hb_int : X.mg "int" = none := by rw [h.mg]; exact E.b_int
  have hb_range : X.mg "range" = none := by rw [h.mg]; exact E.b_range
  have hb_tuple : X.mg "tuple" = none := by rw [h.mg]; exact E.b_tuple
  have c_qdraw := (ok_qdraw (P := P) (w := w) (base := base) E).u h (by omega)
  have c_qis_elder := (ok_qis_elder (P := P) (w := w) (base := base) E).u h (by omega)
  have n0 : (["_law_deck_here", "_law_most", "_law_greatest", "_law_bound", "_law_many", "_law_way", "_law_rows", "_law_make", "_law_elder"] : List Str)[0]? = some ("_law_deck_here" : Str) := rfl
  have v0 : visB (defScope (top 12)) "_law_deck_here" = true := by decide +kernel
  have s0 : Sto X (defScope (top 12)) "_law_deck_here" := sto_c h.fn (by decide +kernel)
  have n1 : (["_law_deck_here", "_law_most", "_law_greatest", "_law_bound", "_law_many", "_law_way", "_law_rows", "_law_make", "_law_elder"] : List Str)[1]? = some ("_law_most" : Str) := rfl
  have v1 : visB (defScope (top 12)) "_law_most" = true := by decide +kernel
  have s1 : Sto X (defScope (top 12)) "_law_most" := sto_c h.fn (by decide +kernel)
  have n2 : (["_law_deck_here", "_law_most", "_law_greatest", "_law_bound", "_law_many", "_law_way", "_law_rows", "_law_make", "_law_elder"] : List Str)[2]? = some ("_law_greatest" : Str) := rfl
  have v2 : visB (defScope (top 12)) "_law_greatest" = true := by decide +kernel
  have s2 : Sto X (defScope (top 12)) "_law_greatest" := sto_c h.fn (by decide +kernel)
  have n3 : (["_law_deck_here", "_law_most", "_law_greatest", "_law_bound", "_law_many", "_law_way", "_law_rows", "_law_make", "_law_elder"] : List Str)[3]? = some ("_law_bound" : Str) := rfl
  have v3 : visB (defScope (top 12)) "_law_bound" = true := by decide +kernel
  have s3 : Sto X (defScope (top 12)) "_law_bound" := sto_c h.fn (by decide +kernel)
  have n4 : (["_law_deck_here", "_law_most", "_law_greatest", "_law_bound", "_law_many", "_law_way", "_law_rows", "_law_make", "_law_elder"] : List Str)[4]? = some ("_law_many" : Str) := rfl
  have v4 : visB (defScope (top 12)) "_law_many" = true := by decide +kernel
  have s4 : Sto X (defScope (top 12)) "_law_many" := sto_c h.fn (by decide +kernel)
  have n5 : (["_law_deck_here", "_law_most", "_law_greatest", "_law_bound", "_law_many", "_law_way", "_law_rows", "_law_make", "_law_elder"] : List Str)[5]? = some ("_law_way" : Str) := rfl
  have v5 : visB (defScope (top 12)) "_law_way" = true := by decide +kernel
  have s5 : Sto X (defScope (top 12)) "_law_way" := sto_c h.fn (by decide +kernel)
  have n6 : (["_law_deck_here", "_law_most", "_law_greatest", "_law_bound", "_law_many", "_law_way", "_law_rows", "_law_make", "_law_elder"] : List Str)[6]? = some ("_law_rows" : Str) := rfl
  have v6 : visB (defScope (top 12)) "_law_rows" = true := by decide +kernel
  have s6 : Sto X (defScope (top 12)) "_law_rows" := sto_c h.fn (by decide +kernel)
  have n7 : (["_law_deck_here", "_law_most", "_law_greatest", "_law_bound", "_law_many", "_law_way", "_law_rows", "_law_make", "_law_elder"] : List Str)[7]? = some ("_law_make" : Str) := rfl
  have v7 : visB (defScope (top 12)) "_law_make" = true := by decide +kernel
  have s7 : Sto X (defScope (top 12)) "_law_make" := sto_c h.fn (by decide +kernel)
  have n8 : (["_law_deck_here", "_law_most", "_law_greatest", "_law_bound", "_law_many", "_law_way", "_law_rows", "_law_make", "_law_elder"] : List Str)[8]? = some ("_law_elder" : Str) := rfl
  unfold b_qnet
  exact (cs_cons (c1_set C.toCf0 3 n3 s3 (ce_frz (ce_ixB C.toCf0 (ce_ofN (cn_lst (ca_cons (ce_frz (ce_var C.toCf0 1 n1 (by decide +kernel))) (ca_cons (ce_frz (ce_var C.toCf0 2 n2 (by decide +kernel))) ca_nil)))) (ce_intc C.toCf0 (by decide +kernel) hb_int (ca_cons (ce_eq C.toCf0 (ce_x (cx_callC C.toCf0 0 c_qdraw (by decide +kernel) (fun _ _ => .nil) (ca_cons (ce_var C.toCf0 0 n0 (by decide +kernel)) (ca_cons ce_int ca_nil)))) ce_int) ca_nil))))) (cs_cons (c1_set C.toCf0 4 n4 s4 (ce_add ce_int (ce_x (cx_callC C.toCf0 0 c_qdraw (by decide +kernel) (fun _ _ => .nil) (ca_cons (ce_var C.toCf0 0 n0 (by decide +kernel)) (ca_cons (ce_var C.toCf0 3 n3 (by decide +kernel)) ca_nil)))))) (cs_cons (c1_set C.toCf0 5 n5 s5 (ce_x (cx_callC C.toCf0 0 c_qdraw (by decide +kernel) (fun _ _ => .nil) (ca_cons (ce_var C.toCf0 0 n0 (by decide +kernel)) (ca_cons ce_int ca_nil))))) (cs_cons (c1_setX C.toCf0 6 n6 s6 (cx_c (cc_l (cn_lst ca_nil)))) (cs_cons (c1_for C [7] (ci_range1 C.toCf0 (by decide +kernel) hb_range (ce_var C.toCf0 4 n4 (by decide +kernel))) (cg_name C.toCf0 7 n7 s7) (cs_cons (c1_expr (ce_append C.toCf0 6 n6 (by decide +kernel) (ce_tuple C.toCf0 (by decide +kernel) hb_tuple (ca_cons (ce_ofN (cn_comp C (CompU.mk (own := [("_law_elder", 8)]) (ci_range1 C.toCf0 (by decide +kernel) hb_range (ce_var C.toCf0 7 n7 (by decide +kernel))) (by decide +kernel) (fun _ _ _ _ _ => (cg_name (Cf.blk C).toCf0 8 n8 (sto_l (by decide +kernel)))) (fun _ _ _ _ _ => (cts_one (ct_of (ce_x (cx_callC (Cf.blk C).toCf0 0 c_qis_elder.blk (by decide +kernel) (fun _ _ => .nil) (ca_cons (ce_var (Cf.blk C).toCf0 0 n0 (by decide +kernel)) (ca_cons (ce_var (Cf.blk C).toCf0 5 n5 (by decide +kernel)) (ca_cons (ce_var (Cf.blk C).toCf0 7 n7 (by decide +kernel)) (ca_cons (ce_var (Cf.blk C).toCf0 8 n8 (by decide +kernel)) ca_nil))))))))) (fun _ _ _ _ _ => (ce_frz (ce_var (Cf.blk C).toCf0 8 n8 (by decide +kernel)))) (by decide) (fun _ => rfl)))) ca_nil)))) cs_nil)) (cs_cons (c1_ret (ce_tuple C.toCf0 (by decide +kernel) hb_tuple (ca_cons (ce_var C.toCf0 6 n6 (by decide +kernel)) ca_nil))) cs_nil))))))
theorem ok_qnet {P : Program} {w : World} {K : PySem.W.Frag} {mg : Str → Option Value} {base : Heap} (E : Env K mg) : Gv P w K mg base (2 + 1) "_law_net" [] (spU K mg u_qnet) := by
  obtain ⟨f, fd, F, hmg⟩ := E.d_qnet
  exact Gv.of F hmg (fo_qnet E F) (F.bindsN fun _ _ _ _ _ _ us hl => match us, hl with | [_, _, _], _ => rfl) .nil
theorem sc_qdeck : FnScope ["_law_script", "_law_k", "_law_cell"] ["_law_script", "_law_k"] (defScope (top 9)) := ⟨rfl, rfl, rfl, by decide +kernel, rfl, by decide +kernel, by decide +kernel⟩
theorem fo_qdeck {P : Program} {w : World} {K : PySem.W.Frag} {mg : Str → Option Value} {base : Heap} (E : Env K mg) {f : Addr} {fd : FuncData} (F : FunD K "_law_deck" "_law_deck" (defArgs (top 9)) (defBody (top 9)) (defScope (top 9)) [] [] f fd) : FnOk P w K mg base (L2.CX P w) (0 + 1) f fd ["_law_script", "_law_k"] (spU K mg u_qdeck) := by
  refine fn_u (N := ["_law_script", "_law_k", "_law_cell"]) (ps := ["_law_script", "_law_k"]) (k := 0) F sc_qdeck (b := b_qdeck) (by decide) fun X W h => ?_
  have C := h.cf
  have hb_len : X.mg "len" = none := by rw [h.mg]; exact E.b_len
  have n0 : (["_law_script", "_law_k", "_law_cell"] : List Str)[0]? = some ("_law_script" : Str) := rfl
  have v0 : visB (defScope (top 9)) "_law_script" = true := by decide +kernel
  have s0 : Sto X (defScope (top 9)) "_law_script" := sto_c h.fn (by decide +kernel)
  have n1 : (["_law_script", "_law_k", "_law_cell"] : List Str)[1]? = some ("_law_k" : Str) := rfl
  have v1 : visB (defScope (top 9)) "_law_k" = true := by decide +kernel
  have s1 : Sto X (defScope (top 9)) "_law_k" := sto_c h.fn (by decide +kernel)
  have n2 : (["_law_script", "_law_k", "_law_cell"] : List Str)[2]? = some ("_law_cell" : Str) := rfl
  have v2 : visB (defScope (top 9)) "_law_cell" = true := by decide +kernel
  have s2 : Sto X (defScope (top 9)) "_law_cell" := sto_c h.fn (by decide +kernel)
  unfold b_qdeck
  exact (cs_cons (c1_set C.toCf0 2 n2 s2 ce_int) (cs_cons (c1_if (ct_cmp (ce_lt (ce_var C.toCf0 1 n1 (by decide +kernel)) (ce_len C.toCf0 (by decide +kernel) hb_len (ca_cons (ce_var C.toCf0 0 n0 (by decide +kernel)) ca_nil)))) (cs_cons (c1_set C.toCf0 2 n2 s2 (ce_frz (ce_ixB C.toCf0 (ce_var C.toCf0 0 n0 (by decide +kernel)) (ce_var C.toCf0 1 n1 (by decide +kernel))))) cs_nil) cs_nil) (cs_cons (c1_if (ct_cmp (ce_lt (ce_var C.toCf0 2 n2 (by decide +kernel)) (ce_pow ce_int ce_int))) (cs_cons (c1_retC (cc_l (cn_lst (ca_cons ce_int (ca_cons ce_int (ca_cons (ce_mod (ce_add (ce_var C.toCf0 2 n2 (by decide +kernel)) (ce_mul ce_int (ce_var C.toCf0 1 n1 (by decide +kernel)))) ce_int) ca_nil)))))) cs_nil) cs_nil) (cs_cons (c1_retC (cc_l (cn_lst (ca_cons (ce_frz (ce_var C.toCf0 2 n2 (by decide +kernel))) (ca_cons ce_int (ca_cons (ce_mod (ce_var C.toCf0 2 n2 (by decide +kernel)) ce_int) ca_nil)))))) cs_nil))))
theorem ok_qdeck {P : Program} {w : World} {K : PySem.W.Frag} {mg : Str → Option Value} {base : Heap} (E : Env K mg) : Gv P w K mg base (0 + 1) "_law_deck" [] (spU K mg u_qdeck) := by
  obtain ⟨f, fd, F, hmg⟩ := E.d_qdeck
  exact Gv.of F hmg (fo_qdeck E F) (F.bindsN fun _ _ _ _ _ _ us hl => match us, hl with | [_, _], _ => rfl) .nil
theorem sc_qreach : FnScope ["_law_net_here", "_law_found", "_law_make", "_law_elders", "_law_row", "_law_elder", "_law_old", "_law_one", "_law_other"] ["_law_net_here"] (defScope (top 13)) := ⟨rfl, rfl, rfl, by decide +kernel, rfl, by decide +kernel, by decide +kernel⟩
theorem fo_qreach {P : Program} {w : World} {K : PySem.W.Frag} {mg : Str → Option Value} {base : Heap} (E : Env K mg) {f : Addr} {fd : FuncData} (F : FunD K "_law_reach" "_law_reach" (defArgs (top 13)) (defBody (top 13)) (defScope (top 13)) [] [] f fd) : FnOk P w K mg base (L2.CX P w) (0 + 1) f fd ["_law_net_here"] (spU K mg u_qreach) := by
  refine fn_u (N := ["_law_net_here", "_law_found", "_law_make", "_law_elders", "_law_row", "_law_elder", "_law_old", "_law_one", "_law_other"]) (ps := ["_law_net_here"]) (k := 0) F sc_qreach (b := b_qreach) (by decide) fun X W h => ?_
  have C := h.cf
  have hb_enumerate : X.mg "enumerate" = none := by rw [h.mg]; exact E.b_enumerate
  have hb_range : X.mg "range" = none := by rw [h.mg]; exact E.b_range
  have hb_len : X.mg "len" = none := by rw [h.mg]; exact E.b_len
  have hb_zip : X.mg "zip" = none := by rw [h.mg]; exact E.b_zip
  have n0 : (["_law_net_here", "_law_found", "_law_make", "_law_elders", "_law_row", "_law_elder", "_law_old", "_law_one", "_law_other"] : List Str)[0]? = some ("_law_net_here" : Str) := rfl
  have v0 : visB (defScope (top 13)) "_law_net_here" = true := by decide +kernel
  have s0 : Sto X (defScope (top 13)) "_law_net_here" := sto_c h.fn (by decide +kernel)
  have n1 : (["_law_net_here", "_law_found", "_law_make", "_law_elders", "_law_row", "_law_elder", "_law_old", "_law_one", "_law_other"] : List Str)[1]? = some ("_law_found" : Str) := rfl
  have v1 : visB (defScope (top 13)) "_law_found" = true := by decide +kernel
  have s1 : Sto X (defScope (top 13)) "_law_found" := sto_c h.fn (by decide +kernel)
  have n2 : (["_law_net_here", "_law_found", "_law_make", "_law_elders", "_law_row", "_law_elder", "_law_old", "_law_one", "_law_other"] : List Str)[2]? = some ("_law_make" : Str) := rfl
  have v2 : visB (defScope (top 13)) "_law_make" = true := by decide +kernel
  have s2 : Sto X (defScope (top 13)) "_law_make" := sto_c h.fn (by decide +kernel)
  have n3 : (["_law_net_here", "_law_found", "_law_make", "_law_elders", "_law_row", "_law_elder", "_law_old", "_law_one", "_law_other"] : List Str)[3]? = some ("_law_elders" : Str) := rfl
  have v3 : visB (defScope (top 13)) "_law_elders" = true := by decide +kernel
  have s3 : Sto X (defScope (top 13)) "_law_elders" := sto_c h.fn (by decide +kernel)
  have n4 : (["_law_net_here", "_law_found", "_law_make", "_law_elders", "_law_row", "_law_elder", "_law_old", "_law_one", "_law_other"] : List Str)[4]? = some ("_law_row" : Str) := rfl
  have v4 : visB (defScope (top 13)) "_law_row" = true := by decide +kernel
  have s4 : Sto X (defScope (top 13)) "_law_row" := sto_c h.fn (by decide +kernel)
  have n5 : (["_law_net_here", "_law_found", "_law_make", "_law_elders", "_law_row", "_law_elder", "_law_old", "_law_one", "_law_other"] : List Str)[5]? = some ("_law_elder" : Str) := rfl
  have v5 : visB (defScope (top 13)) "_law_elder" = true := by decide +kernel
  have s5 : Sto X (defScope (top 13)) "_law_elder" := sto_c h.fn (by decide +kernel)
  have n6 : (["_law_net_here", "_law_found", "_law_make", "_law_elders", "_law_row", "_law_elder", "_law_old", "_law_one", "_law_other"] : List Str)[6]? = some ("_law_old" : Str) := rfl
  have n7 : (["_law_net_here", "_law_found", "_law_make", "_law_elders", "_law_row", "_law_elder", "_law_old", "_law_one", "_law_other"] : List Str)[7]? = some ("_law_one" : Str) := rfl
  have n8 : (["_law_net_here", "_law_found", "_law_make", "_law_elders", "_law_row", "_law_elder", "_law_old", "_law_one", "_law_other"] : List Str)[8]? = some ("_law_other" : Str) := rfl
  unfold b_qreach
  exact (cs_cons (c1_setX C.toCf0 1 n1 s1 (cx_c (cc_l (cn_lst ca_nil)))) (cs_cons (c1_for C [2, 3, 4, 5] (ci_enum C.toCf0 (by decide +kernel) hb_enumerate (ce_var C.toCf0 0 n0 (by decide +kernel))) (cg_tup2 C (cg_name C.toCf0 2 n2 s2) (cg_name C.toCf0 3 n3 s3)) (cs_cons (c1_lcD C rfl 4 n4 (by decide +kernel) (CompU.mk (own := [("_law_old", 6)]) (ci_range1 C.toCf0 (by decide +kernel) hb_range (ce_len C.toCf0 (by decide +kernel) hb_len (ca_cons (ce_var C.toCf0 0 n0 (by decide +kernel)) ca_nil))) (by decide +kernel) (fun _ _ _ _ _ => (cg_name (Cf.blk C).toCf0 6 n6 (sto_l (by decide +kernel)))) (fun _ _ _ _ _ => cts_nil) (fun _ _ _ _ _ => (ce_frz (ce_eq (Cf.blk C).toCf0 (ce_var (Cf.blk C).toCf0 6 n6 (by decide +kernel)) (ce_var (Cf.blk C).toCf0 2 n2 (by decide +kernel))))) (by decide) (fun _ => rfl))) (cs_cons (c1_for C [5] (ci_seq (ce_var C.toCf0 3 n3 (by decide +kernel))) (cg_name C.toCf0 5 n5 s5) (cs_cons (c1_lcD C rfl 4 n4 (by decide +kernel) (CompU.mk (own := [("_law_one", 7), ("_law_other", 8)]) (ci_zipX C.toCf0 (by decide +kernel) hb_zip (ce_var C.toCf0 4 n4 (by decide +kernel)) (ce_ixB C.toCf0 (ce_var C.toCf0 1 n1 (by decide +kernel)) (ce_var C.toCf0 5 n5 (by decide +kernel)))) (by decide +kernel) (fun _ _ _ _ _ => (cg_tup2 (Cf.blk C) (cg_name (Cf.blk C).toCf0 7 n7 (sto_l (by decide +kernel))) (cg_name (Cf.blk C).toCf0 8 n8 (sto_l (by decide +kernel))))) (fun _ _ _ _ _ => cts_nil) (fun _ _ _ _ _ => (ce_frz (ce_or (ce_var (Cf.blk C).toCf0 7 n7 (by decide +kernel)) (ce_one (ce_var (Cf.blk C).toCf0 8 n8 (by decide +kernel)))))) (by decide) (fun _ => rfl))) cs_nil)) (cs_cons (c1_expr (ce_append C.toCf0 1 n1 (by decide +kernel) (ce_var C.toCf0 4 n4 (by decide +kernel)))) cs_nil)))) (cs_cons (c1_retO C.toCf0 1 n1 (by decide +kernel)) cs_nil)))
theorem ok_qreach {P : Program} {w : World} {K : PySem.W.Frag} {mg : Str → Option Value} {base : Heap} (E : Env K mg) : Gv P w K mg base (0 + 1) "_law_reach" [] (spU K mg u_qreach) := by
  obtain ⟨f, fd, F, hmg⟩ := E.d_qreach
  exact Gv.of F hmg (fo_qreach E F) (F.bindsN fun _ _ _ _ _ _ us hl => match us, hl with | [_], _ => rfl) .nil
def b_qmakes : DS := (bSeq (bSetX 2 (xC (nL (dLst dA0)))) (bSeq (bFor [3] (gN 3) (iRange1 (dVar 1)) (bSeq (bIf (dTst (dCmp (kI fun i j => decide (j < i)) (eX (xCallC u_qdraw 0 [] (dAc (dVar 0) (dAc (dC (.int 3)) dA0)))) (dC (.int 0)))) (bSeq (bExpr (dLm 2 qInsert (dAc (eX (xCallC u_qdraw 0 [] (dAc (dVar 0) (dAc (dAdd (dB kLen (dAc (dVar 2) dA0)) (dC (.int 1))) dA0)))) (dAc (dFrz (dVar 3)) dA0)))) bNil) bNil) bNil)) (bSeq (bFor [4] (gN 4) (iRange1 (eX (xCallC u_qdraw 0 [] (dAc (dVar 0) (dAc (dC (.int 4)) dA0))))) (bSeq (bExpr (dLm 2 qInsert (dAc (eX (xCallC u_qdraw 0 [] (dAc (dVar 0) (dAc (dAdd (dB kLen (dAc (dVar 2) dA0)) (dC (.int 1))) dA0)))) (dAc (dFrz (eX (xCallC u_qdraw 0 [] (dAc (dVar 0) (dAc (dVar 1) dA0))))) dA0)))) bNil)) (bSeq (bRetO 2) bNil))))
def u_qmakes : List Ar → R (Rs × List Sl) := runB 5 2 b_qmakes
theorem sc_qmakes : FnScope ["_law_deck_here", "_law_many", "_law_found", "_law_make", "_law_k"] ["_law_deck_here", "_law_many"] (defScope (top 14)) := ⟨rfl, rfl, rfl, by decide +kernel, rfl, by decide +kernel, by decide +kernel⟩
theorem fo_qmakes {P : Program} {w : World} {K : PySem.W.Frag} {mg : Str → Option Value} {base : Heap} (E : Env K mg) {f : Addr} {fd : FuncData} (F : FunD K "_law_makes" "_law_makes" (defArgs (top 14)) (defBody (top 14)) (defScope (top 14)) [] [] f fd) : FnOk P w K mg base (L2.CX P w) (1 + 1) f fd ["_law_deck_here", "_law_many"] (spU K mg u_qmakes) := by
  refine fn_u (N := ["_law_deck_here", "_law_many", "_law_found", "_law_make", "_law_k"]) (ps := ["_law_deck_here", "_law_many"]) (k := 1) F sc_qmakes (b := b_qmakes) (by decide) fun X W h => ?_
  have C := h.cf
  have hb_range : X.mg "range" = none := by rw [h.mg]; exact E.b_range
  have hb_len : X.mg "len" = none := by rw [h.mg]; exact E.b_len
  have c_qdraw := (ok_qdraw (P := P) (w := w) (base := base) E).u h (by omega)
  have n0 : (["_law_deck_here", "_law_many", "_law_found", "_law_make", "_law_k"] : List Str)[0]? = some ("_law_deck_here" : Str) := rfl
  have v0 : visB (defScope (top 14)) "_law_deck_here" = true := by decide +kernel
  have s0 : Sto X (defScope (top 14)) "_law_deck_here" := sto_c h.fn (by decide +kernel)
  have n1 : (["_law_deck_here", "_law_many", "_law_found", "_law_make", "_law_k"] : List Str)[1]? = some ("_law_many" : Str) := rfl
  have v1 : visB (defScope (top 14)) "_law_many" = true := by decide +kernel
  have s1 : Sto X (defScope (top 14)) "_law_many" := sto_c h.fn (by decide +kernel)
  have n2 : (["_law_deck_here", "_law_many", "_law_found", "_law_make", "_law_k"] : List Str)[2]? = some ("_law_found" : Str) := rfl
  have v2 : visB (defScope (top 14)) "_law_found" = true := by decide +kernel
  have s2 : Sto X (defScope (top 14)) "_law_found" := sto_c h.fn (by decide +kernel)
  have n3 : (["_law_deck_here", "_law_many", "_law_found", "_law_make", "_law_k"] : List Str)[3]? = some ("_law_make" : Str) := rfl
  have v3 : visB (defScope (top 14)) "_law_make" = true := by decide +kernel
  have s3 : Sto X (defScope (top 14)) "_law_make" := sto_c h.fn (by decide +kernel)
  have n4 : (["_law_deck_here", "_law_many", "_law_found", "_law_make", "_law_k"] : List Str)[4]? = some ("_law_k" : Str) := rfl
  have v4 : visB (defScope (top 14)) "_law_k" = true := by decide +kernel
  have s4 : Sto X (defScope (top 14)) "_law_k" := sto_c h.fn (by decide +kernel)
  unfold b_qmakes
  exact (cs_cons (c1_setX C.toCf0 2 n2 s2 (cx_c (cc_l (cn_lst ca_nil)))) (cs_cons (c1_for C [3] (ci_range1 C.toCf0 (by decide +kernel) hb_range (ce_var C.toCf0 1 n1 (by decide +kernel))) (cg_name C.toCf0 3 n3 s3) (cs_cons (c1_if (ct_cmp (ce_gt (ce_x (cx_callC C.toCf0 0 c_qdraw (by decide +kernel) (fun _ _ => .nil) (ca_cons (ce_var C.toCf0 0 n0 (by decide +kernel)) (ca_cons ce_int ca_nil)))) ce_int)) (cs_cons (c1_expr (ce_insert C.toCf0 2 n2 (by decide +kernel) (ce_x (cx_callC C.toCf0 0 c_qdraw (by decide +kernel) (fun _ _ => .nil) (ca_cons (ce_var C.toCf0 0 n0 (by decide +kernel)) (ca_cons (ce_add (ce_len C.toCf0 (by decide +kernel) hb_len (ca_cons (ce_var C.toCf0 2 n2 (by decide +kernel)) ca_nil)) ce_int) ca_nil)))) (ce_var C.toCf0 3 n3 (by decide +kernel)))) cs_nil) cs_nil) cs_nil)) (cs_cons (c1_for C [4] (ci_range1 C.toCf0 (by decide +kernel) hb_range (ce_x (cx_callC C.toCf0 0 c_qdraw (by decide +kernel) (fun _ _ => .nil) (ca_cons (ce_var C.toCf0 0 n0 (by decide +kernel)) (ca_cons ce_int ca_nil))))) (cg_name C.toCf0 4 n4 s4) (cs_cons (c1_expr (ce_insert C.toCf0 2 n2 (by decide +kernel) (ce_x (cx_callC C.toCf0 0 c_qdraw (by decide +kernel) (fun _ _ => .nil) (ca_cons (ce_var C.toCf0 0 n0 (by decide +kernel)) (ca_cons (ce_add (ce_len C.toCf0 (by decide +kernel) hb_len (ca_cons (ce_var C.toCf0 2 n2 (by decide +kernel)) ca_nil)) ce_int) ca_nil)))) (ce_x (cx_callC C.toCf0 0 c_qdraw (by decide +kernel) (fun _ _ => .nil) (ca_cons (ce_var C.toCf0 0 n0 (by decide +kernel)) (ca_cons (ce_var C.toCf0 1 n1 (by decide +kernel)) ca_nil)))))) cs_nil)) (cs_cons (c1_retO C.toCf0 2 n2 (by decide +kernel)) cs_nil))))
theorem ok_qmakes {P : Program} {w : World} {K : PySem.W.Frag} {mg : Str → Option Value} {base : Heap} (E : Env K mg) : Gv P w K mg base (1 + 1) "_law_makes" [] (spU K mg u_qmakes) := by
  obtain ⟨f, fd, F, hmg⟩ := E.d_qmakes
  exact Gv.of F hmg (fo_qmakes E F) (F.bindsN fun _ _ _ _ _ _ us hl => match us, hl with | [_, _], _ => rfl) .nil
theorem sc_qbarred : FnScope ["_law_deck_here", "_law_many", "_law_way", "_law_found", "_law_make"] ["_law_deck_here", "_law_many"] (defScope (top 16)) := ⟨rfl, rfl, rfl, by decide +kernel, rfl, by decide +kernel, by decide +kernel⟩
theorem fo_qbarred {P : Program} {w : World} {K : PySem.W.Frag} {mg : Str → Option Value} {base : Heap} (E : Env K mg) {f : Addr} {fd : FuncData} (F : FunD K "_law_barred" "_law_barred" (defArgs (top 16)) (defBody (top 16)) (defScope (top 16)) [] [] f fd) : FnOk P w K mg base (L2.CX P w) (1 + 1) f fd ["_law_deck_here", "_law_many"] (spU K mg u_qbarred) := by
  refine fn_u (N := ["_law_deck_here", "_law_many", "_law_way", "_law_found", "_law_make"]) (ps := ["_law_deck_here", "_law_many"]) (k := 1) F sc_qbarred (b := b_qbarred) (by decide) fun X W h => ?_
  have C := h.cf
  have hb_range : X.mg "range" = none := by rw [h.mg]; exact E.b_range
  have hb_len : X.mg "len" = none := by rw [h.mg]; exact E.b_len
  have c_qdraw := (ok_qdraw (P := P) (w := w) (base := base) E).u h (by omega)
  have n0 : (["_law_deck_here", "_law_many", "_law_way", "_law_found", "_law_make"] : List Str)[0]? = some ("_law_deck_here" : Str) := rfl
  have v0 : visB (defScope (top 16)) "_law_deck_here" = true := by decide +kernel
  have s0 : Sto X (defScope (top 16)) "_law_deck_here" := sto_c h.fn (by decide +kernel)
  have n1 : (["_law_deck_here", "_law_many", "_law_way", "_law_found", "_law_make"] : List Str)[1]? = some ("_law_many" : Str) := rfl
  have v1 : visB (defScope (top 16)) "_law_many" = true := by decide +kernel
  have s1 : Sto X (defScope (top 16)) "_law_many" := sto_c h.fn (by decide +kernel)
  have n2 : (["_law_deck_here", "_law_many", "_law_way", "_law_found", "_law_make"] : List Str)[2]? = some ("_law_way" : Str) := rfl
  have v2 : visB (defScope (top 16)) "_law_way" = true := by decide +kernel
  have s2 : Sto X (defScope (top 16)) "_law_way" := sto_c h.fn (by decide +kernel)
  have n3 : (["_law_deck_here", "_law_many", "_law_way", "_law_found", "_law_make"] : List Str)[3]? = some ("_law_found" : Str) := rfl
  have v3 : visB (defScope (top 16)) "_law_found" = true := by decide +kernel
  have s3 : Sto X (defScope (top 16)) "_law_found" := sto_c h.fn (by decide +kernel)
  have n4 : (["_law_deck_here", "_law_many", "_law_way", "_law_found", "_law_make"] : List Str)[4]? = some ("_law_make" : Str) := rfl
  have v4 : visB (defScope (top 16)) "_law_make" = true := by decide +kernel
  have s4 : Sto X (defScope (top 16)) "_law_make" := sto_c h.fn (by decide +kernel)
  unfold b_qbarred
  exact (cs_cons (c1_set C.toCf0 2 n2 s2 (ce_x (cx_callC C.toCf0 0 c_qdraw (by decide +kernel) (fun _ _ => .nil) (ca_cons (ce_var C.toCf0 0 n0 (by decide +kernel)) (ca_cons ce_int ca_nil))))) (cs_cons (c1_if (ct_cmp (ce_eq C.toCf0 (ce_var C.toCf0 2 n2 (by decide +kernel)) ce_int)) (cs_cons (c1_retC (cc_l (cn_lst ca_nil))) cs_nil) cs_nil) (cs_cons (c1_setX C.toCf0 3 n3 s3 (cx_c (cc_l (cn_lst ca_nil)))) (cs_cons (c1_for C [4] (ci_range1 C.toCf0 (by decide +kernel) hb_range (ce_var C.toCf0 1 n1 (by decide +kernel))) (cg_name C.toCf0 4 n4 s4) (cs_cons (c1_if (ct_cmp (ce_eq C.toCf0 (ce_x (cx_callC C.toCf0 0 c_qdraw (by decide +kernel) (fun _ _ => .nil) (ca_cons (ce_var C.toCf0 0 n0 (by decide +kernel)) (ca_cons (ce_ixB C.toCf0 (ce_ofN (cn_lst (ca_cons ce_int (ca_cons ce_int (ca_cons ce_int (ca_cons ce_int ca_nil)))))) (ce_var C.toCf0 2 n2 (by decide +kernel))) ca_nil)))) ce_int)) (cs_cons (c1_expr (ce_insert C.toCf0 3 n3 (by decide +kernel) (ce_x (cx_callC C.toCf0 0 c_qdraw (by decide +kernel) (fun _ _ => .nil) (ca_cons (ce_var C.toCf0 0 n0 (by decide +kernel)) (ca_cons (ce_add (ce_len C.toCf0 (by decide +kernel) hb_len (ca_cons (ce_var C.toCf0 3 n3 (by decide +kernel)) ca_nil)) ce_int) ca_nil)))) (ce_var C.toCf0 4 n4 (by decide +kernel)))) cs_nil) cs_nil) cs_nil)) (cs_cons (c1_retC (cc_l (cn_cat (ce_var C.toCf0 3 n3 (by decide +kernel)) (ce_x (cx_cut (ce_var C.toCf0 3 n3 (by decide +kernel)) co_none (co_some (ce_x (cx_callC C.toCf0 0 c_qdraw (by decide +kernel) (fun _ _ => .nil) (ca_cons (ce_var C.toCf0 0 n0 (by decide +kernel)) (ca_cons ce_int ca_nil)))))))))) cs_nil)))))
theorem ok_qbarred {P : Program} {w : World} {K : PySem.W.Frag} {mg : Str → Option Value} {base : Heap} (E : Env K mg) : Gv P w K mg base (1 + 1) "_law_barred" [] (spU K mg u_qbarred) := by
  obtain ⟨f, fd, F, hmg⟩ := E.d_qbarred
  exact Gv.of F hmg (fo_qbarred E F) (F.bindsN fun _ _ _ _ _ _ us hl => match us, hl with | [_, _], _ => rfl) .nil
theorem sc_qalike : FnScope ["_law_reach_here", "_law_one", "_law_other", "_law_gone", "_law_make", "_law_row"] ["_law_reach_here", "_law_one", "_law_other", "_law_gone"] (defScope (top 17)) := ⟨rfl, rfl, rfl, by decide +kernel, rfl, by decide +kernel, by decide +kernel⟩
theorem fo_qalike {P : Program} {w : World} {K : PySem.W.Frag} {mg : Str → Option Value} {base : Heap} (E : Env K mg) {f : Addr} {fd : FuncData} (F : FunD K "_law_alike" "_law_alike" (defArgs (top 17)) (defBody (top 17)) (defScope (top 17)) [] [] f fd) : FnOk P w K mg base (L2.CX P w) (0 + 1) f fd ["_law_reach_here", "_law_one", "_law_other", "_law_gone"] (spU K mg u_qalike_k25) := by
  refine fn_u (N := ["_law_reach_here", "_law_one", "_law_other", "_law_gone", "_law_make", "_law_row"]) (ps := ["_law_reach_here", "_law_one", "_law_other", "_law_gone"]) (k := 0) F sc_qalike (b := b_qalike_k25) (by decide) fun X W h => ?_
  have C := h.cf
  have hb_enumerate : X.mg "enumerate" = none := by rw [h.mg]; exact E.b_enumerate
  have n0 : (["_law_reach_here", "_law_one", "_law_other", "_law_gone", "_law_make", "_law_row"] : List Str)[0]? = some ("_law_reach_here" : Str) := rfl
  have v0 : visB (defScope (top 17)) "_law_reach_here" = true := by decide +kernel
  have s0 : Sto X (defScope (top 17)) "_law_reach_here" := sto_c h.fn (by decide +kernel)
  have n1 : (["_law_reach_here", "_law_one", "_law_other", "_law_gone", "_law_make", "_law_row"] : List Str)[1]? = some ("_law_one" : Str) := rfl
  have v1 : visB (defScope (top 17)) "_law_one" = true := by decide +kernel
  have s1 : Sto X (defScope (top 17)) "_law_one" := sto_c h.fn (by decide +kernel)
  have n2 : (["_law_reach_here", "_law_one", "_law_other", "_law_gone", "_law_make", "_law_row"] : List Str)[2]? = some ("_law_other" : Str) := rfl
  have v2 : visB (defScope (top 17)) "_law_other" = true := by decide +kernel
  have s2 : Sto X (defScope (top 17)) "_law_other" := sto_c h.fn (by decide +kernel)
  have n3 : (["_law_reach_here", "_law_one", "_law_other", "_law_gone", "_law_make", "_law_row"] : List Str)[3]? = some ("_law_gone" : Str) := rfl
  have v3 : visB (defScope (top 17)) "_law_gone" = true := by decide +kernel
  have s3 : Sto X (defScope (top 17)) "_law_gone" := sto_c h.fn (by decide +kernel)
  have n4 : (["_law_reach_here", "_law_one", "_law_other", "_law_gone", "_law_make", "_law_row"] : List Str)[4]? = some ("_law_make" : Str) := rfl
  have v4 : visB (defScope (top 17)) "_law_make" = true := by decide +kernel
  have s4 : Sto X (defScope (top 17)) "_law_make" := sto_c h.fn (by decide +kernel)
  have n5 : (["_law_reach_here", "_law_one", "_law_other", "_law_gone", "_law_make", "_law_row"] : List Str)[5]? = some ("_law_row" : Str) := rfl
  have v5 : visB (defScope (top 17)) "_law_row" = true := by decide +kernel
  have s5 : Sto X (defScope (top 17)) "_law_row" := sto_c h.fn (by decide +kernel)
  unfold b_qalike_k25
  exact (cs_cons (c1_for C [4, 5] (ci_enum C.toCf0 (by decide +kernel) hb_enumerate (ce_var C.toCf0 0 n0 (by decide +kernel))) (cg_tup2 C (cg_name C.toCf0 4 n4 s4) (cg_name C.toCf0 5 n5 s5)) (cs_cons (c1_if (ct_w (cw_and (ct_cmp (ce_notinB C.toCf0 (ce_var C.toCf0 4 n4 (by decide +kernel)) (ce_var C.toCf0 3 n3 (by decide +kernel)))) (cw_and1 (ct_cmp (ce_ne C.toCf0 (ce_ixB C.toCf0 (ce_var C.toCf0 5 n5 (by decide +kernel)) (ce_var C.toCf0 1 n1 (by decide +kernel))) (ce_ixB C.toCf0 (ce_var C.toCf0 5 n5 (by decide +kernel)) (ce_var C.toCf0 2 n2 (by decide +kernel)))))))) (cs_cons (c1_ret ce_bool) cs_nil) cs_nil) cs_nil)) (cs_cons (c1_ret ce_bool) cs_nil))
theorem ok_qalike {P : Program} {w : World} {K : PySem.W.Frag} {mg : Str → Option Value} {base : Heap} (E : Env K mg) : Gv P w K mg base (0 + 1) "_law_alike" [] (spU K mg u_qalike_k25) := by
  obtain ⟨f, fd, F, hmg⟩ := E.d_qalike
  exact Gv.of F hmg (fo_qalike E F) (F.bindsN fun _ _ _ _ _ _ us hl => match us, hl with | [_, _, _, _], _ => rfl) .nil
def b_qclasses : DS := (bSeq (bSetX 3 (xC nT0)) (bSeq (bFor [4, 5] (gN 4) (iSeq (dOfN (dSset (dVar 1)))) (bSeq (bThere 5 3 6 4 u_qalike_k25 [false, false, false, false] [.v 0, .h 6 0, .v 4, .v 2]) bNil)) (bFrz 3 (bSeq (bRetC (nL (nComp [6] (gN 6) (iSeq (dVar 3)) tYes (dFrz (dB kTuple (dAc (dVar 6) dA0)))))) bNil))))
def u_qclasses : List Ar → R (Rs × List Sl) := runB 7 3 b_qclasses
theorem sc_qclasses : FnScope ["_law_reach_here", "_law_makes_here", "_law_gone", "_law_found", "_law_make", "_law_there", "_law_row"] ["_law_reach_here", "_law_makes_here", "_law_gone"] (defScope (top 18)) := ⟨rfl, rfl, rfl, by decide +kernel, rfl, by decide +kernel, by decide +kernel⟩
theorem fo_qclasses {P : Program} {w : World} {K : PySem.W.Frag} {mg : Str → Option Value} {base : Heap} (E : Env K mg) {f : Addr} {fd : FuncData} (F : FunD K "_law_classes" "_law_classes" (defArgs (top 18)) (defBody (top 18)) (defScope (top 18)) [] [] f fd) : FnOk P w K mg base (L2.CX P w) (1 + 1) f fd ["_law_reach_here", "_law_makes_here", "_law_gone"] (spU K mg u_qclasses) := by
  refine fn_u (N := ["_law_reach_here", "_law_makes_here", "_law_gone", "_law_found", "_law_make", "_law_there", "_law_row"]) (ps := ["_law_reach_here", "_law_makes_here", "_law_gone"]) (k := 1) F sc_qclasses (b := b_qclasses) (by decide) fun X W h => ?_
  have C := h.cf
  have hb_sorted : X.mg "sorted" = none := by rw [h.mg]; exact E.b_sorted
  have hb_set : X.mg "set" = none := by rw [h.mg]; exact E.b_set
  have hb_tuple : X.mg "tuple" = none := by rw [h.mg]; exact E.b_tuple
  have c_qalike := (ok_qalike (P := P) (w := w) (base := base) E).u h (by omega)
  have n0 : (["_law_reach_here", "_law_makes_here", "_law_gone", "_law_found", "_law_make", "_law_there", "_law_row"] : List Str)[0]? = some ("_law_reach_here" : Str) := rfl
  have v0 : visB (defScope (top 18)) "_law_reach_here" = true := by decide +kernel
  have s0 : Sto X (defScope (top 18)) "_law_reach_here" := sto_c h.fn (by decide +kernel)
  have n1 : (["_law_reach_here", "_law_makes_here", "_law_gone", "_law_found", "_law_make", "_law_there", "_law_row"] : List Str)[1]? = some ("_law_makes_here" : Str) := rfl
  have v1 : visB (defScope (top 18)) "_law_makes_here" = true := by decide +kernel
  have s1 : Sto X (defScope (top 18)) "_law_makes_here" := sto_c h.fn (by decide +kernel)
  have n2 : (["_law_reach_here", "_law_makes_here", "_law_gone", "_law_found", "_law_make", "_law_there", "_law_row"] : List Str)[2]? = some ("_law_gone" : Str) := rfl
  have v2 : visB (defScope (top 18)) "_law_gone" = true := by decide +kernel
  have s2 : Sto X (defScope (top 18)) "_law_gone" := sto_c h.fn (by decide +kernel)
  have n3 : (["_law_reach_here", "_law_makes_here", "_law_gone", "_law_found", "_law_make", "_law_there", "_law_row"] : List Str)[3]? = some ("_law_found" : Str) := rfl
  have v3 : visB (defScope (top 18)) "_law_found" = true := by decide +kernel
  have s3 : Sto X (defScope (top 18)) "_law_found" := sto_c h.fn (by decide +kernel)
  have n4 : (["_law_reach_here", "_law_makes_here", "_law_gone", "_law_found", "_law_make", "_law_there", "_law_row"] : List Str)[4]? = some ("_law_make" : Str) := rfl
  have v4 : visB (defScope (top 18)) "_law_make" = true := by decide +kernel
  have s4 : Sto X (defScope (top 18)) "_law_make" := sto_c h.fn (by decide +kernel)
  have n5 : (["_law_reach_here", "_law_makes_here", "_law_gone", "_law_found", "_law_make", "_law_there", "_law_row"] : List Str)[5]? = some ("_law_there" : Str) := rfl
  have v5 : visB (defScope (top 18)) "_law_there" = true := by decide +kernel
  have s5 : Sto X (defScope (top 18)) "_law_there" := sto_c h.fn (by decide +kernel)
  have n6 : (["_law_reach_here", "_law_makes_here", "_law_gone", "_law_found", "_law_make", "_law_there", "_law_row"] : List Str)[6]? = some ("_law_row" : Str) := rfl
  unfold b_qclasses
  exact (cs_cons (c1_setX C.toCf0 3 n3 s3 (cx_c cc_t0)) (cs_cons (c1_for C [4, 5] (ci_seq (ce_ofN (cn_sset C (by decide +kernel) hb_sorted (by decide +kernel) hb_set (ce_var C.toCf0 1 n1 (by decide +kernel))))) (cg_name C.toCf0 4 n4 s4) (cs_there C rfl [false, false, false, false] (own := [("_law_row", 6)]) n3 (by decide +kernel) n5 (by decide +kernel) (by decide +kernel) n4 (by decide +kernel) (by decide +kernel) rfl (fun _ _ _ _ _ => (pg_nm (Cf.blk C).toCf0 6 n6 (sto_l (by decide +kernel)))) (fun _ _ _ _ _ => (pt_q (Cf.blk C).toCf0 c_qalike.blk (by decide +kernel) (cat_v (Cf.blk C).toCf0 0 n0 (by decide +kernel) (cat_h (Cf.blk C).toCf0 6 0 n6 (by decide +kernel) (cat_v (Cf.blk C).toCf0 4 n4 (by decide +kernel) (cat_v (Cf.blk C).toCf0 2 n2 (by decide +kernel) cat_nil)))))) (fun _ _ _ _ _ => (pe_nmV (Cf.blk C).toCf0 6 n6 (by decide +kernel))) cs_nil)) (cs_frz 3 (cs_cons (c1_retC (cc_l (cn_comp C (CompU.mk (own := [("_law_row", 6)]) (ci_seq (ce_var C.toCf0 3 n3 (by decide +kernel))) (by decide +kernel) (fun _ _ _ _ _ => (cg_name (Cf.blk C).toCf0 6 n6 (sto_l (by decide +kernel)))) (fun _ _ _ _ _ => cts_nil) (fun _ _ _ _ _ => (ce_frz (ce_tuple (Cf.blk C).toCf0 (by decide +kernel) hb_tuple (ca_cons (ce_var (Cf.blk C).toCf0 6 n6 (by decide +kernel)) ca_nil)))) (by decide) (fun _ => rfl))))) cs_nil))))
theorem ok_qclasses {P : Program} {w : World} {K : PySem.W.Frag} {mg : Str → Option Value} {base : Heap} (E : Env K mg) : Gv P w K mg base (1 + 1) "_law_classes" [] (spU K mg u_qclasses) := by
  obtain ⟨f, fd, F, hmg⟩ := E.d_qclasses
  exact Gv.of F hmg (fo_qclasses E F) (F.bindsN fun _ _ _ _ _ _ us hl => match us, hl with | [_, _, _], _ => rfl) .nil
theorem sc_p_some_of : FnScope ["makes"] ["makes"] (defScope (top 4)) := ⟨rfl, rfl, rfl, by decide +kernel, rfl, by decide +kernel, by decide +kernel⟩
theorem fo_p_some_of {P : Program} {w : World} {K : PySem.W.Frag} {mg : Str → Option Value} {base : Heap} (E : Env K mg) {f : Addr} {fd : FuncData} (F : FunD K "some_of" "some_of" (defArgs (top 4)) (defBody (top 4)) (defScope (top 4)) [] [] f fd) : FnOk P w K mg base (L2.CX P w) (0 + 1) f fd ["makes"] (spU K mg u_p_some_of) := by
  refine fn_u (N := ["makes"]) (ps := ["makes"]) (k := 0) F sc_p_some_of (b := b_p_some_of) (by decide) fun X W h => ?_
  have C := h.cf
  have hb_list : X.mg "list" = none := by rw [h.mg]; exact E.b_list
  have n0 : (["makes"] : List Str)[0]? = some ("makes" : Str) := rfl
  have v0 : visB (defScope (top 4)) "makes" = true := by decide +kernel
  have s0 : Sto X (defScope (top 4)) "makes" := sto_c h.fn (by decide +kernel)
  unfold b_p_some_of
  exact (cs_cons (c1_if (ct_cmp (ce_is (ce_var C.toCf0 0 n0 (by decide +kernel)) ce_none)) (cs_cons (c1_retC (cc_l (cn_lst ca_nil))) cs_nil) cs_nil) (cs_cons (c1_retC (cc_l (cn_list C.toCf0 (by decide +kernel) hb_list (ca_cons (ce_var C.toCf0 0 n0 (by decide +kernel)) ca_nil)))) cs_nil))
theorem ok_p_some_of {P : Program} {w : World} {K : PySem.W.Frag} {mg : Str → Option Value} {base : Heap} (E : Env K mg) : Gv P w K mg base (0 + 1) "some_of" [] (spU K mg u_p_some_of) := by
  obtain ⟨f, fd, F, hmg⟩ := E.d_p_some_of
  exact Gv.of F hmg (fo_p_some_of E F) (F.bindsN fun _ _ _ _ _ _ us hl => match us, hl with | [_], _ => rfl) .nil
theorem sc_p_bits_of : FnScope ["net", "found", "make", "elders", "bits", "elder"] ["net"] (defScope (top 1)) := ⟨rfl, rfl, rfl, by decide +kernel, rfl, by decide +kernel, by decide +kernel⟩
theorem fo_p_bits_of {P : Program} {w : World} {K : PySem.W.Frag} {mg : Str → Option Value} {base : Heap} (E : Env K mg) {f : Addr} {fd : FuncData} (F : FunD K "bits_of" "bits_of" (defArgs (top 1)) (defBody (top 1)) (defScope (top 1)) [] [] f fd) : FnOk P w K mg base (L2.CX P w) (0 + 1) f fd ["net"] (spU K mg uBitsOf) := by
  refine fn_u (N := ["net", "found", "make", "elders", "bits", "elder"]) (ps := ["net"]) (k := 0) F sc_p_bits_of (b := bBitsOf) (by decide) fun X W h => ?_
  have C := h.cf
  have hb_enumerate : X.mg "enumerate" = none := by rw [h.mg]; exact E.b_enumerate
  have n0 : (["net", "found", "make", "elders", "bits", "elder"] : List Str)[0]? = some ("net" : Str) := rfl
  have v0 : visB (defScope (top 1)) "net" = true := by decide +kernel
  have s0 : Sto X (defScope (top 1)) "net" := sto_c h.fn (by decide +kernel)
  have n1 : (["net", "found", "make", "elders", "bits", "elder"] : List Str)[1]? = some ("found" : Str) := rfl
  have v1 : visB (defScope (top 1)) "found" = true := by decide +kernel
  have s1 : Sto X (defScope (top 1)) "found" := sto_c h.fn (by decide +kernel)
  have n2 : (["net", "found", "make", "elders", "bits", "elder"] : List Str)[2]? = some ("make" : Str) := rfl
  have v2 : visB (defScope (top 1)) "make" = true := by decide +kernel
  have s2 : Sto X (defScope (top 1)) "make" := sto_c h.fn (by decide +kernel)
  have n3 : (["net", "found", "make", "elders", "bits", "elder"] : List Str)[3]? = some ("elders" : Str) := rfl
  have v3 : visB (defScope (top 1)) "elders" = true := by decide +kernel
  have s3 : Sto X (defScope (top 1)) "elders" := sto_c h.fn (by decide +kernel)
  have n4 : (["net", "found", "make", "elders", "bits", "elder"] : List Str)[4]? = some ("bits" : Str) := rfl
  have v4 : visB (defScope (top 1)) "bits" = true := by decide +kernel
  have s4 : Sto X (defScope (top 1)) "bits" := sto_c h.fn (by decide +kernel)
  have n5 : (["net", "found", "make", "elders", "bits", "elder"] : List Str)[5]? = some ("elder" : Str) := rfl
  have v5 : visB (defScope (top 1)) "elder" = true := by decide +kernel
  have s5 : Sto X (defScope (top 1)) "elder" := sto_c h.fn (by decide +kernel)
  unfold bBitsOf
  exact (cs_cons (c1_setX C.toCf0 1 n1 s1 (cx_c (cc_l (cn_lst ca_nil)))) (cs_cons (c1_for C [2, 3, 4, 5] (ci_enum C.toCf0 (by decide +kernel) hb_enumerate (ce_var C.toCf0 0 n0 (by decide +kernel))) (cg_tup2 C (cg_name C.toCf0 2 n2 s2) (cg_name C.toCf0 3 n3 s3)) (cs_cons (c1_set C.toCf0 4 n4 s4 (ce_shl ce_int (ce_var C.toCf0 2 n2 (by decide +kernel)))) (cs_cons (c1_for C [5] (ci_seq (ce_var C.toCf0 3 n3 (by decide +kernel))) (cg_name C.toCf0 5 n5 s5) (cs_cons (c1_set C.toCf0 4 n4 s4 (ce_bor (ce_var C.toCf0 4 n4 (by decide +kernel)) (ce_ixB C.toCf0 (ce_var C.toCf0 1 n1 (by decide +kernel)) (ce_var C.toCf0 5 n5 (by decide +kernel))))) cs_nil)) (cs_cons (c1_expr (ce_append C.toCf0 1 n1 (by decide +kernel) (ce_var C.toCf0 4 n4 (by decide +kernel)))) cs_nil)))) (cs_cons (c1_retO C.toCf0 1 n1 (by decide +kernel)) cs_nil)))
theorem ok_p_bits_of {P : Program} {w : World} {K : PySem.W.Frag} {mg : Str → Option Value} {base : Heap} (E : Env K mg) : Gv P w K mg base (0 + 1) "bits_of" [] (spU K mg uBitsOf) := by
  obtain ⟨f, fd, F, hmg⟩ := E.d_p_bits_of
  exact Gv.of F hmg (fo_p_bits_of E F) (F.bindsN fun _ _ _ _ _ _ us hl => match us, hl with | [_], _ => rfl) .nil
theorem sc_p_makes_in : FnScope ["mask", "found", "at"] ["mask"] (defScope (top 3)) := ⟨rfl, rfl, rfl, by decide +kernel, rfl, by decide +kernel, by decide +kernel⟩
theorem fo_p_makes_in {P : Program} {w : World} {K : PySem.W.Frag} {mg : Str → Option Value} {base : Heap} (E : Env K mg) {f : Addr} {fd : FuncData} (F : FunD K "makes_in" "makes_in" (defArgs (top 3)) (defBody (top 3)) (defScope (top 3)) [] [] f fd) : FnOk P w K mg base (L2.CX P w) (0 + 1) f fd ["mask"] (spU K mg uMakesIn) := by
  refine fn_u (N := ["mask", "found", "at"]) (ps := ["mask"]) (k := 0) F sc_p_makes_in (b := bMakesIn) (by decide) fun X W h => ?_
  have C := h.cf
  have hb_tuple : X.mg "tuple" = none := by rw [h.mg]; exact E.b_tuple
  have n0 : (["mask", "found", "at"] : List Str)[0]? = some ("mask" : Str) := rfl
  have v0 : visB (defScope (top 3)) "mask" = true := by decide +kernel
  have s0 : Sto X (defScope (top 3)) "mask" := sto_c h.fn (by decide +kernel)
  have n1 : (["mask", "found", "at"] : List Str)[1]? = some ("found" : Str) := rfl
  have v1 : visB (defScope (top 3)) "found" = true := by decide +kernel
  have s1 : Sto X (defScope (top 3)) "found" := sto_c h.fn (by decide +kernel)
  have n2 : (["mask", "found", "at"] : List Str)[2]? = some ("at" : Str) := rfl
  have v2 : visB (defScope (top 3)) "at" = true := by decide +kernel
  have s2 : Sto X (defScope (top 3)) "at" := sto_c h.fn (by decide +kernel)
  unfold bMakesIn
  exact (cs_cons (c1_setX C.toCf0 1 n1 s1 (cx_c (cc_l (cn_lst ca_nil)))) (cs_cons (c1_set C.toCf0 2 n2 s2 ce_int) (cs_cons (c1_while C.toCf0 [] (fun _ => 1000000) (ct_cmp (ce_gt (ce_var C.toCf0 0 n0 (by decide +kernel)) ce_int)) (cs_cons (c1_if (ct_cmp (ce_eq C.toCf0 (ce_band (ce_var C.toCf0 0 n0 (by decide +kernel)) ce_int) ce_int)) (cs_cons (c1_expr (ce_append C.toCf0 1 n1 (by decide +kernel) (ce_var C.toCf0 2 n2 (by decide +kernel)))) cs_nil) cs_nil) (cs_cons (c1_set C.toCf0 0 n0 s0 (ce_shr (ce_var C.toCf0 0 n0 (by decide +kernel)) ce_int)) (cs_cons (c1_inc C.toCf0 2 n2 s2 ce_int) cs_nil)))) (cs_cons (c1_ret (ce_tuple C.toCf0 (by decide +kernel) hb_tuple (ca_cons (ce_var C.toCf0 1 n1 (by decide +kernel)) ca_nil))) cs_nil))))
theorem ok_p_makes_in {P : Program} {w : World} {K : PySem.W.Frag} {mg : Str → Option Value} {base : Heap} (E : Env K mg) : Gv P w K mg base (0 + 1) "makes_in" [] (spU K mg uMakesIn) := by
  obtain ⟨f, fd, F, hmg⟩ := E.d_p_makes_in
  exact Gv.of F hmg (fo_p_makes_in E F) (F.bindsN fun _ _ _ _ _ _ us hl => match us, hl with | [_], _ => rfl) .nil
theorem sc_p_mask_of : FnScope ["makes", "mask", "make"] ["makes"] (defScope (top 2)) := ⟨rfl, rfl, rfl, by decide +kernel, rfl, by decide +kernel, by decide +kernel⟩
theorem fo_p_mask_of {P : Program} {w : World} {K : PySem.W.Frag} {mg : Str → Option Value} {base : Heap} (E : Env K mg) {f : Addr} {fd : FuncData} (F : FunD K "mask_of" "mask_of" (defArgs (top 2)) (defBody (top 2)) (defScope (top 2)) [] [] f fd) : FnOk P w K mg base (L2.CX P w) (0 + 1) f fd ["makes"] (spU K mg u_p_mask_of) := by
  refine fn_u (N := ["makes", "mask", "make"]) (ps := ["makes"]) (k := 0) F sc_p_mask_of (b := b_p_mask_of) (by decide) fun X W h => ?_
  have C := h.cf
  have n0 : (["makes", "mask", "make"] : List Str)[0]? = some ("makes" : Str) := rfl
  have v0 : visB (defScope (top 2)) "makes" = true := by decide +kernel
  have s0 : Sto X (defScope (top 2)) "makes" := sto_c h.fn (by decide +kernel)
  have n1 : (["makes", "mask", "make"] : List Str)[1]? = some ("mask" : Str) := rfl
  have v1 : visB (defScope (top 2)) "mask" = true := by decide +kernel
  have s1 : Sto X (defScope (top 2)) "mask" := sto_c h.fn (by decide +kernel)
  have n2 : (["makes", "mask", "make"] : List Str)[2]? = some ("make" : Str) := rfl
  have v2 : visB (defScope (top 2)) "make" = true := by decide +kernel
  have s2 : Sto X (defScope (top 2)) "make" := sto_c h.fn (by decide +kernel)
  unfold b_p_mask_of
  exact (cs_cons (c1_set C.toCf0 1 n1 s1 ce_int) (cs_cons (c1_for C [2] (ci_seq (ce_var C.toCf0 0 n0 (by decide +kernel))) (cg_name C.toCf0 2 n2 s2) (cs_cons (c1_set C.toCf0 1 n1 s1 (ce_bor (ce_var C.toCf0 1 n1 (by decide +kernel)) (ce_shl ce_int (ce_var C.toCf0 2 n2 (by decide +kernel))))) cs_nil)) (cs_cons (c1_ret (ce_var C.toCf0 1 n1 (by decide +kernel))) cs_nil)))
theorem ok_p_mask_of {P : Program} {w : World} {K : PySem.W.Frag} {mg : Str → Option Value} {base : Heap} (E : Env K mg) : Gv P w K mg base (0 + 1) "mask_of" [] (spU K mg u_p_mask_of) := by
  obtain ⟨f, fd, F, hmg⟩ := E.d_p_mask_of
  exact Gv.of F hmg (fo_p_mask_of E F) (F.bindsN fun _ _ _ _ _ _ us hl => match us, hl with | [_], _ => rfl) .nil
theorem sc_p_is_in : FnScope ["mask", "make"] ["mask", "make"] (defScope (top 5)) := ⟨rfl, rfl, rfl, by decide +kernel, rfl, by decide +kernel, by decide +kernel⟩
theorem fo_p_is_in {P : Program} {w : World} {K : PySem.W.Frag} {mg : Str → Option Value} {base : Heap} (E : Env K mg) {f : Addr} {fd : FuncData} (F : FunD K "is_in" "is_in" (defArgs (top 5)) (defBody (top 5)) (defScope (top 5)) [] [] f fd) : FnOk P w K mg base (L2.CX P w) (0 + 1) f fd ["mask", "make"] (spU K mg uIsIn) := by
  refine fn_u (N := ["mask", "make"]) (ps := ["mask", "make"]) (k := 0) F sc_p_is_in (b := bIsIn) (by decide) fun X W h => ?_
  have C := h.cf
  have n0 : (["mask", "make"] : List Str)[0]? = some ("mask" : Str) := rfl
  have v0 : visB (defScope (top 5)) "mask" = true := by decide +kernel
  have s0 : Sto X (defScope (top 5)) "mask" := sto_c h.fn (by decide +kernel)
  have n1 : (["mask", "make"] : List Str)[1]? = some ("make" : Str) := rfl
  have v1 : visB (defScope (top 5)) "make" = true := by decide +kernel
  have s1 : Sto X (defScope (top 5)) "make" := sto_c h.fn (by decide +kernel)
  unfold bIsIn
  exact (cs_cons (c1_ret (ce_eq C.toCf0 (ce_band (ce_shr (ce_var C.toCf0 0 n0 (by decide +kernel)) (ce_var C.toCf0 1 n1 (by decide +kernel))) ce_int) ce_int)) cs_nil)
theorem ok_p_is_in {P : Program} {w : World} {K : PySem.W.Frag} {mg : Str → Option Value} {base : Heap} (E : Env K mg) : Gv P w K mg base (0 + 1) "is_in" [] (spU K mg uIsIn) := by
  obtain ⟨f, fd, F, hmg⟩ := E.d_p_is_in
  exact Gv.of F hmg (fo_p_is_in E F) (F.bindsN fun _ _ _ _ _ _ us hl => match us, hl with | [_, _], _ => rfl) .nil
theorem sc_p_classes : FnScope ["net", "makes", "barred", "gone", "tries", "found", "make", "bits", "row"] ["net", "makes", "barred"] (defScope (top 7)) := ⟨rfl, rfl, rfl, by decide +kernel, rfl, by decide +kernel, by decide +kernel⟩
theorem fo_p_classes {P : Program} {w : World} {K : PySem.W.Frag} {mg : Str → Option Value} {base : Heap} (E : Env K mg) {f : Addr} {fd : FuncData} (F : FunD K "classes" "classes" (defArgs (top 7)) (defBody (top 7)) (defScope (top 7)) [V.non] [] f fd) : FnOk P w K mg base (L2.CX P w) (1 + 1) f fd ["net", "makes", "barred"] (spU K mg u_p_classes) := by
  refine fn_u (N := ["net", "makes", "barred", "gone", "tries", "found", "make", "bits", "row"]) (ps := ["net", "makes", "barred"]) (k := 1) F sc_p_classes (b := b_p_classes) (by decide) fun X W h => ?_
  have C := h.cf
  have hb_enumerate : X.mg "enumerate" = none := by rw [h.mg]; exact E.b_enumerate
  have hb_tuple : X.mg "tuple" = none := by rw [h.mg]; exact E.b_tuple
  have c_p_some_of := (ok_p_some_of (P := P) (w := w) (base := base) E).u h (by omega)
  have c_p_bits_of := (ok_p_bits_of (P := P) (w := w) (base := base) E).u h (by omega)
  have c_p_makes_in := (ok_p_makes_in (P := P) (w := w) (base := base) E).u h (by omega)
  have c_p_mask_of := (ok_p_mask_of (P := P) (w := w) (base := base) E).u h (by omega)
  have c_p_is_in := (ok_p_is_in (P := P) (w := w) (base := base) E).u h (by omega)
  have n0 : (["net", "makes", "barred", "gone", "tries", "found", "make", "bits", "row"] : List Str)[0]? = some ("net" : Str) := rfl
  have v0 : visB (defScope (top 7)) "net" = true := by decide +kernel
  have s0 : Sto X (defScope (top 7)) "net" := sto_c h.fn (by decide +kernel)
  have n1 : (["net", "makes", "barred", "gone", "tries", "found", "make", "bits", "row"] : List Str)[1]? = some ("makes" : Str) := rfl
  have v1 : visB (defScope (top 7)) "makes" = true := by decide +kernel
  have s1 : Sto X (defScope (top 7)) "makes" := sto_c h.fn (by decide +kernel)
  have n2 : (["net", "makes", "barred", "gone", "tries", "found", "make", "bits", "row"] : List Str)[2]? = some ("barred" : Str) := rfl
  have v2 : visB (defScope (top 7)) "barred" = true := by decide +kernel
  have s2 : Sto X (defScope (top 7)) "barred" := sto_c h.fn (by decide +kernel)
  have n3 : (["net", "makes", "barred", "gone", "tries", "found", "make", "bits", "row"] : List Str)[3]? = some ("gone" : Str) := rfl
  have v3 : visB (defScope (top 7)) "gone" = true := by decide +kernel
  have s3 : Sto X (defScope (top 7)) "gone" := sto_c h.fn (by decide +kernel)
  have n4 : (["net", "makes", "barred", "gone", "tries", "found", "make", "bits", "row"] : List Str)[4]? = some ("tries" : Str) := rfl
  have v4 : visB (defScope (top 7)) "tries" = true := by decide +kernel
  have s4 : Sto X (defScope (top 7)) "tries" := sto_c h.fn (by decide +kernel)
  have n5 : (["net", "makes", "barred", "gone", "tries", "found", "make", "bits", "row"] : List Str)[5]? = some ("found" : Str) := rfl
  have v5 : visB (defScope (top 7)) "found" = true := by decide +kernel
  have s5 : Sto X (defScope (top 7)) "found" := sto_c h.fn (by decide +kernel)
  have n6 : (["net", "makes", "barred", "gone", "tries", "found", "make", "bits", "row"] : List Str)[6]? = some ("make" : Str) := rfl
  have v6 : visB (defScope (top 7)) "make" = true := by decide +kernel
  have s6 : Sto X (defScope (top 7)) "make" := sto_c h.fn (by decide +kernel)
  have n7 : (["net", "makes", "barred", "gone", "tries", "found", "make", "bits", "row"] : List Str)[7]? = some ("bits" : Str) := rfl
  have n8 : (["net", "makes", "barred", "gone", "tries", "found", "make", "bits", "row"] : List Str)[8]? = some ("row" : Str) := rfl
  unfold b_p_classes
  exact (cs_cons (c1_set C.toCf0 3 n3 s3 (ce_x (cx_call C.toCf0 c_p_some_of (by decide +kernel) (fun _ _ => .nil) (ca_cons (ce_var C.toCf0 2 n2 (by decide +kernel)) ca_nil)))) (cs_cons (c1_lcD C rfl 4 n4 (by decide +kernel) (CompU.mk (own := [("make", 6), ("bits", 7)]) (ci_enum C.toCf0 (by decide +kernel) hb_enumerate (ce_x (cx_call C.toCf0 c_p_bits_of (by decide +kernel) (fun _ _ => .nil) (ca_cons (ce_var C.toCf0 0 n0 (by decide +kernel)) ca_nil)))) (by decide +kernel) (fun _ _ _ _ _ => (cg_tup2 (Cf.blk C) (cg_name (Cf.blk C).toCf0 6 n6 (sto_l (by decide +kernel))) (cg_name (Cf.blk C).toCf0 7 n7 (sto_l (by decide +kernel))))) (fun _ _ _ _ _ => (cts_one (ct_cmp (ce_notinB (Cf.blk C).toCf0 (ce_var (Cf.blk C).toCf0 6 n6 (by decide +kernel)) (ce_var (Cf.blk C).toCf0 3 n3 (by decide +kernel)))))) (fun _ _ _ _ _ => (ce_frz (ce_var (Cf.blk C).toCf0 7 n7 (by decide +kernel)))) (by decide) (fun _ => rfl))) (cs_cons (c1_setX C.toCf0 5 n5 s5 (cx_c cc_mulN0)) (cs_cons (c1_for C [6] (ci_seq (ce_x (cx_call C.toCf0 c_p_makes_in (by decide +kernel) (fun _ _ => .nil) (ca_cons (ce_x (cx_call C.toCf0 c_p_mask_of (by decide +kernel) (fun _ _ => .nil) (ca_cons (ce_var C.toCf0 1 n1 (by decide +kernel)) ca_nil))) ca_nil)))) (cg_name C.toCf0 6 n6 s6) (cs_cons (c1_expr (ce_sdaN C.toCf0 5 6 n5 (by decide +kernel) n6 (by decide +kernel) (ce_tuple C.toCf0 (by decide +kernel) hb_tuple (ca_cons (ce_ofN (cn_comp C (CompU.mk (own := [("bits", 7)]) (ci_seq (ce_var C.toCf0 4 n4 (by decide +kernel))) (by decide +kernel) (fun _ _ _ _ _ => (cg_name (Cf.blk C).toCf0 7 n7 (sto_l (by decide +kernel)))) (fun _ _ _ _ _ => cts_nil) (fun _ _ _ _ _ => (ce_frz (ce_x (cx_call (Cf.blk C).toCf0 c_p_is_in.blk (by decide +kernel) (fun _ _ => .nil) (ca_cons (ce_var (Cf.blk C).toCf0 7 n7 (by decide +kernel)) (ca_cons (ce_var (Cf.blk C).toCf0 6 n6 (by decide +kernel)) ca_nil)))))) (by decide) (fun _ => rfl)))) ca_nil)))) cs_nil)) (cs_sinkN 5 (cs_cons (c1_retC (cc_l (cn_comp C (CompU.mk (own := [("row", 8)]) (ci_valN (ce_frzK (ce_var C.toCf0 5 n5 (by decide +kernel)))) (by decide +kernel) (fun _ _ _ _ _ => (cg_name (Cf.blk C).toCf0 8 n8 (sto_l (by decide +kernel)))) (fun _ _ _ _ _ => cts_nil) (fun _ _ _ _ _ => (ce_frz (ce_tuple (Cf.blk C).toCf0 (by decide +kernel) hb_tuple (ca_cons (ce_var (Cf.blk C).toCf0 8 n8 (by decide +kernel)) ca_nil)))) (by decide) (fun _ => rfl))))) cs_nil))))))
theorem ok_p_classes {P : Program} {w : World} {K : PySem.W.Frag} {mg : Str → Option Value} {base : Heap} (E : Env K mg) : Gv P w K mg base (1 + 1) "classes" [] (spU K mg u_p_classes) := by
  obtain ⟨f, fd, F, hmg⟩ := E.d_p_classes
  obtain ⟨ds, hv, hb⟩ := F.binds1 (ps := ["net", "makes", "barred"]) 3 1 (by simp) rfl (fun T kV doc pm an cdv ct us its h1 h2 => match us, its, h1, h2 with | [_, _, _], [_], _, _ => ⟨_, rfl, rfl⟩)
  exact Gv.of F hmg (fo_p_classes E F) hb hv
theorem sc_qsame : FnScope ["_law_found", "_law_due", "_law_one", "_law_other"] ["_law_found", "_law_due"] (defScope (top 15)) := ⟨rfl, rfl, rfl, by decide +kernel, rfl, by decide +kernel, by decide +kernel⟩
theorem fo_qsame {P : Program} {w : World} {K : PySem.W.Frag} {mg : Str → Option Value} {base : Heap} (E : Env K mg) {f : Addr} {fd : FuncData} (F : FunD K "_law_same" "_law_same" (defArgs (top 15)) (defBody (top 15)) (defScope (top 15)) [] [] f fd) (hmg : mg "_law_same" = some (.ref f)) : ∀ n : Nat, FnOk P w K mg base (L2.CX P w) (0 + n + 1) f fd ["_law_found", "_law_due"] (spU K mg (u_qsame n))
  | 0 => fn_u (N := ["_law_found", "_law_due", "_law_one", "_law_other"]) (ps := ["_law_found", "_law_due"]) F sc_qsame (b := b_qsame 0) (by decide) fun X W h => cs_bad
  | n + 1 => by
    have IH := fo_qsame (P := P) (w := w) (base := base) E F hmg n
    refine fn_u (N := ["_law_found", "_law_due", "_law_one", "_law_other"]) (ps := ["_law_found", "_law_due"]) (k := 0 + n + 1) F sc_qsame (b := b_qsame (n + 1)) (by decide) fun X W h => ?_
    have C := h.cf
    have c_qsame := (Gv.of F hmg IH (F.bindsN fun _ _ _ _ _ _ us hl => match us, hl with | [_, _], _ => rfl) .nil).u h (Nat.le_refl _)
    have hb_isinstance : X.mg "isinstance" = none := by rw [h.mg]; exact E.b_isinstance
    have hb_list : X.mg "list" = none := by rw [h.mg]; exact E.b_list
    have hb_tuple : X.mg "tuple" = none := by rw [h.mg]; exact E.b_tuple
    have hb_len : X.mg "len" = none := by rw [h.mg]; exact E.b_len
    have hb_all : X.mg "all" = none := by rw [h.mg]; exact E.b_all
    have hb_zip : X.mg "zip" = none := by rw [h.mg]; exact E.b_zip
    have hb_str : X.mg "str" = none := by rw [h.mg]; exact E.b_str
    have hb_int : X.mg "int" = none := by rw [h.mg]; exact E.b_int
    have hb_bool : X.mg "bool" = none := by rw [h.mg]; exact E.b_bool
    have n0 : (["_law_found", "_law_due", "_law_one", "_law_other"] : List Str)[0]? = some ("_law_found" : Str) := rfl
    have v0 : visB (defScope (top 15)) "_law_found" = true := by decide +kernel
    have s0 : Sto X (defScope (top 15)) "_law_found" := sto_c h.fn (by decide +kernel)
    have n1 : (["_law_found", "_law_due", "_law_one", "_law_other"] : List Str)[1]? = some ("_law_due" : Str) := rfl
    have v1 : visB (defScope (top 15)) "_law_due" = true := by decide +kernel
    have s1 : Sto X (defScope (top 15)) "_law_due" := sto_c h.fn (by decide +kernel)
    have n2 : (["_law_found", "_law_due", "_law_one", "_law_other"] : List Str)[2]? = some ("_law_one" : Str) := rfl
    have n3 : (["_law_found", "_law_due", "_law_one", "_law_other"] : List Str)[3]? = some ("_law_other" : Str) := rfl
    show CS X W _ (b_qsame (n + 1))
    unfold b_qsame
    exact (cs_cons (c1_if (ct_of (ce_isi2 C .list .tuple (by decide +kernel) hb_isinstance (by decide +kernel) hb_list (by decide +kernel) hb_tuple rfl rfl (ce_var C.toCf0 1 n1 (by decide +kernel)))) (cs_cons (c1_if (ct_w (cw_or (ct_cmp (ce_ne C.toCf0 (ce_isi C.toCf0 .list (by decide +kernel) hb_isinstance (by decide +kernel) hb_list rfl (ce_var C.toCf0 1 n1 (by decide +kernel))) (ce_isi C.toCf0 .list (by decide +kernel) hb_isinstance (by decide +kernel) hb_list rfl (ce_var C.toCf0 0 n0 (by decide +kernel))))) (cw_or1 (ct_cmp (ce_ne C.toCf0 (ce_isi C.toCf0 .tuple (by decide +kernel) hb_isinstance (by decide +kernel) hb_tuple rfl (ce_var C.toCf0 1 n1 (by decide +kernel))) (ce_isi C.toCf0 .tuple (by decide +kernel) hb_isinstance (by decide +kernel) hb_tuple rfl (ce_var C.toCf0 0 n0 (by decide +kernel)))))))) (cs_cons (c1_ret ce_bool) cs_nil) cs_nil) (cs_cons (c1_ret (ce_and (ce_eq C.toCf0 (ce_len C.toCf0 (by decide +kernel) hb_len (ca_cons (ce_var C.toCf0 0 n0 (by decide +kernel)) ca_nil)) (ce_len C.toCf0 (by decide +kernel) hb_len (ca_cons (ce_var C.toCf0 1 n1 (by decide +kernel)) ca_nil))) (ce_one (ce_all C (by decide +kernel) hb_all (ca_cons (ce_ofN (cn_comp C (CompU.mk (own := [("_law_one", 2), ("_law_other", 3)]) (ci_zipX C.toCf0 (by decide +kernel) hb_zip (ce_var C.toCf0 0 n0 (by decide +kernel)) (ce_var C.toCf0 1 n1 (by decide +kernel))) (by decide +kernel) (fun _ _ _ _ _ => (cg_tup2 (Cf.blk C) (cg_name (Cf.blk C).toCf0 2 n2 (sto_l (by decide +kernel))) (cg_name (Cf.blk C).toCf0 3 n3 (sto_l (by decide +kernel))))) (fun _ _ _ _ _ => cts_nil) (fun _ _ _ _ _ => (ce_frz (ce_x (cx_call (Cf.blk C).toCf0 c_qsame.blk (by decide +kernel) (fun _ _ => .nil) (ca_cons (ce_var (Cf.blk C).toCf0 2 n2 (by decide +kernel)) (ca_cons (ce_var (Cf.blk C).toCf0 3 n3 (by decide +kernel)) ca_nil)))))) (by decide) (fun _ => rfl)))) ca_nil))))) cs_nil)) cs_nil) (cs_cons (c1_if (ct_cmp (ce_is (ce_var C.toCf0 1 n1 (by decide +kernel)) ce_none)) (cs_cons (c1_ret (ce_is (ce_var C.toCf0 0 n0 (by decide +kernel)) ce_none)) cs_nil) cs_nil) (cs_cons (c1_if (ct_of (ce_isi C.toCf0 .str (by decide +kernel) hb_isinstance (by decide +kernel) hb_str rfl (ce_var C.toCf0 1 n1 (by decide +kernel)))) (cs_cons (c1_ret (ce_and (ce_isi C.toCf0 .str (by decide +kernel) hb_isinstance (by decide +kernel) hb_str rfl (ce_var C.toCf0 0 n0 (by decide +kernel))) (ce_one (ce_eq C.toCf0 (ce_var C.toCf0 0 n0 (by decide +kernel)) (ce_var C.toCf0 1 n1 (by decide +kernel)))))) cs_nil) cs_nil) (cs_cons (c1_ret (ce_and (ce_isi C.toCf0 .int (by decide +kernel) hb_isinstance (by decide +kernel) hb_int rfl (ce_var C.toCf0 0 n0 (by decide +kernel))) (ce_and (ce_eq C.toCf0 (ce_isi C.toCf0 .bool (by decide +kernel) hb_isinstance (by decide +kernel) hb_bool rfl (ce_var C.toCf0 0 n0 (by decide +kernel))) (ce_isi C.toCf0 .bool (by decide +kernel) hb_isinstance (by decide +kernel) hb_bool rfl (ce_var C.toCf0 1 n1 (by decide +kernel)))) (ce_one (ce_eq C.toCf0 (ce_var C.toCf0 0 n0 (by decide +kernel)) (ce_var C.toCf0 1 n1 (by decide +kernel))))))) cs_nil))))
theorem ok_qsame {P : Program} {w : World} {K : PySem.W.Frag} {mg : Str → Option Value} {base : Heap} (E : Env K mg) (n : Nat) : Gv P w K mg base (0 + n + 1) "_law_same" [] (spU K mg (u_qsame n)) := by
  obtain ⟨f, fd, F, hmg⟩ := E.d_qsame
  exact Gv.of F hmg (fo_qsame E F hmg n) (F.bindsN fun _ _ _ _ _ _ us hl => match us, hl with | [_, _], _ => rfl) .nil
theorem ok_p_classes_barred {P : Program} {w : World} {K : PySem.W.Frag} {mg : Str → Option Value} {base : Heap} (E : Env K mg) : GvK P w K mg base (1 + 1) "classes" 2 ["barred"] [] (spU K mg u_p_classes) := by
  obtain ⟨f, fd, F, hmg⟩ := E.d_p_classes
  obtain ⟨its, hb⟩ := kbinds1 (ps := ["net", "makes", "barred"]) F 2 1 ["barred"] (by simp) (fun T kV doc pm an cdv ct us its ws h1 h2 h3 => match us, its, ws, h1, h2, h3 with | [_, _], [_], [_], _, _, _ => ⟨_, rfl, rfl⟩)
  exact ⟨f, fd, _, its, (fo_p_classes E F), hmg, F.kp, hb⟩
theorem ok_p_classes_d1 {P : Program} {w : World} {K : PySem.W.Frag} {mg : Str → Option Value} {base : Heap} (E : Env K mg) : Gv P w K mg base (1 + 1) "classes" [V.non] (spU K mg u_p_classes) := by
  obtain ⟨f, fd, F, hmg⟩ := E.d_p_classes
  obtain ⟨ds, hv, hb⟩ := F.binds1 (ps := ["net", "makes", "barred"]) 2 0 (by simp) rfl (fun T kV doc pm an cdv ct us its h1 h2 => match us, its, h1, h2 with | [_, _], [_], _, _ => ⟨_, rfl, rfl⟩)
  exact Gv.of F hmg (fo_p_classes E F) hb hv
def b_p_law : DS := (bSeq (bSet 1 (eX (xCallN u_qnet [] (nX (xCall u_qdeck [] (dAc (dVar 0) (dAc (dC (.int 0)) dA0)))) [12, 40]))) (bSeq (bSet 2 (eX (xCall u_qreach [] (dAc (dVar 1) dA0)))) (bSeq (bFor [3, 4, 5, 6, 7, 8, 9, 10] (gN 3) (iRange2 (dC (.int 1)) (dB kMax2 (dAc (dC (.int 2)) (dAc (dB kMin2 (dAc (dB kLen (dAc (dVar 0) dA0)) (dAc (dIxB (dOfN (dLst (dAc (dC (.int 4)) (dAc (dC (.int 2)) dA0)))) (dB kInt (dAc (dCmp (kI fun i j => decide (j < i)) (dB kLen (dAc (dVar 1) dA0)) (dC (.int 14))) dA0))) dA0))) dA0)))) (bSeq (bSetX 4 (xCall u_qdeck [] (dAc (dVar 0) (dAc (dVar 3) dA0)))) (bSeq (bSet 5 (eX (xCallC u_qmakes 0 [] (dAc (dVar 4) (dAc (dB kLen (dAc (dVar 1) dA0)) dA0))))) (bSeq (bSet 6 (eX (xCallC u_qbarred 0 [] (dAc (dVar 4) (dAc (dB kLen (dAc (dVar 1) dA0)) dA0))))) (bSeq (bSet 7 (dOfN (dLst (dAc (dOfN (dBN kList (dAc (dVar 5) dA0))) (dAc (dOfN (dBN kList (dAc (dVar 6) dA0))) dA0))))) (bSeq (bSet 8 (eX (xCall u_qclasses [] (dAc (dVar 2) (dAc (dVar 5) (dAc (dVar 6) dA0)))))) (bSeq (bSetX 9 (xCall u_p_classes [] (dAc (dVar 1) (dAc (dIxB (dVar 7) (dC (.int 0))) (dAc (dIxB (dVar 7) (dC (.int 1))) dA0))))) (bSeq (bIf (dTor (dTnot (dTst (eX (xCall (u_qsame 64) [] (dAc (dVar 9) (dAc (dVar 8) dA0)))))) (dTst (dCmp kNe (dVar 7) (dOfN (dLst (dAc (dFrz (dVar 5)) (dAc (dFrz (dVar 6)) dA0))))))) (bSeq (bRet (dC (.bool false))) bNil) bNil) (bSeq (bExpr (dLm 9 qReverse dA0)) (bSeq (bExpr (dLm 9 qAppend (dAc (dFrz (dTup (dAc (dC (.int 0)) dA0))) dA0))) (bSeq (bIf (dTnot (dTst (eX (xCall (u_qsame 64) [] (dAc (eX (xCall u_p_classes [] (dAc (dVar 1) (dAc (dIxB (dVar 7) (dC (.int 0))) (dAc (dIxB (dVar 7) (dC (.int 1))) dA0))))) (dAc (dVar 8) dA0)))))) (bSeq (bRet (dC (.bool false))) bNil) bNil) (bSeq (bIf (dTst (dCmp kNe (eX (xCallK u_p_classes 2 1 [] (dAc (dVar 1) (dAc (dVar 5) dA0)) (dAc (dB kTuple (dAc (dVar 6) dA0)) dA0))) (dVar 8))) (bSeq (bRet (dC (.bool false))) bNil) bNil) (bSeq (bSet 10 (dOfN (nComp [11] (gN 11) (iSeq (dOfN (dSset (dVar 5)))) tYes (dFrz (dTup (dAc (dFrz (dVar 11)) dA0)))))) (bSeq (bIf (dTor (dTnot (dTst (eX (xCall (u_qsame 64) [] (dAc (eX (xCall u_p_classes [PyData.none] (dAc (dVar 1) (dAc (dB kTuple (dAc (dVar 5) dA0)) dA0)))) (dAc (dVar 10) dA0)))))) (dTnot (dTst (eX (xCall (u_qsame 64) [] (dAc (eX (xCall u_p_classes [] (dAc (dVar 1) (dAc (dVar 5) (dAc (dC .none) dA0))))) (dAc (dVar 10) dA0))))))) (bSeq (bRet (dC (.bool false))) bNil) bNil) bNil)))))))))))))) (bSeq (bRet (dC (.bool true))) bNil))))
def u_p_law : List Ar → R (Rs × List Sl) := runB 12 1 b_p_law
theorem sc_p_law : FnScope ["_law_script", "_law_net_here", "_law_reach_here", "_law_k", "_law_deck_here", "_law_makes_here", "_law_gone", "_law_handed", "_law_due", "_law_found", "_law_alone", "_law_make"] ["_law_script"] (defScope (top 19)) := ⟨rfl, rfl, rfl, by decide +kernel, rfl, by decide +kernel, by decide +kernel⟩
theorem fo_p_law {P : Program} {w : World} {K : PySem.W.Frag} {mg : Str → Option Value} {base : Heap} (E : Env K mg) {f : Addr} {fd : FuncData} (F : FunD K "law" "law" (defArgs (top 19)) (defBody (top 19)) (defScope (top 19)) [] [] f fd) : FnOk P w K mg base (L2.CX P w) (65 + 1) f fd ["_law_script"] (spU K mg u_p_law) := by
  refine fn_u (N := ["_law_script", "_law_net_here", "_law_reach_here", "_law_k", "_law_deck_here", "_law_makes_here", "_law_gone", "_law_handed", "_law_due", "_law_found", "_law_alone", "_law_make"]) (ps := ["_law_script"]) (k := 65) F sc_p_law (b := b_p_law) (by decide) fun X W h => ?_
  have C := h.cf
  have hb_range : X.mg "range" = none := by rw [h.mg]; exact E.b_range
  have hb_max : X.mg "max" = none := by rw [h.mg]; exact E.b_max
  have hb_min : X.mg "min" = none := by rw [h.mg]; exact E.b_min
  have hb_len : X.mg "len" = none := by rw [h.mg]; exact E.b_len
  have hb_int : X.mg "int" = none := by rw [h.mg]; exact E.b_int
  have hb_list : X.mg "list" = none := by rw [h.mg]; exact E.b_list
  have hb_tuple : X.mg "tuple" = none := by rw [h.mg]; exact E.b_tuple
  have hb_sorted : X.mg "sorted" = none := by rw [h.mg]; exact E.b_sorted
  have hb_set : X.mg "set" = none := by rw [h.mg]; exact E.b_set
  have c_qnet := (ok_qnet (P := P) (w := w) (base := base) E).u h (by omega)
  have c_qdeck := (ok_qdeck (P := P) (w := w) (base := base) E).u h (by omega)
  have c_qreach := (ok_qreach (P := P) (w := w) (base := base) E).u h (by omega)
  have c_qmakes := (ok_qmakes (P := P) (w := w) (base := base) E).u h (by omega)
  have c_qbarred := (ok_qbarred (P := P) (w := w) (base := base) E).u h (by omega)
  have c_qclasses := (ok_qclasses (P := P) (w := w) (base := base) E).u h (by omega)
  have c_p_classes := (ok_p_classes (P := P) (w := w) (base := base) E).u h (by omega)
  have c_qsame := (ok_qsame (P := P) (w := w) (base := base) E 64).u h (by omega)
  have c_p_classes_barred := (ok_p_classes_barred (P := P) (w := w) (base := base) E).u h (by omega)
  have c_p_classes_d1 := (ok_p_classes_d1 (P := P) (w := w) (base := base) E).u h (by omega)
  have n0 : (["_law_script", "_law_net_here", "_law_reach_here", "_law_k", "_law_deck_here", "_law_makes_here", "_law_gone", "_law_handed", "_law_due", "_law_found", "_law_alone", "_law_make"] : List Str)[0]? = some ("_law_script" : Str) := rfl
  have v0 : visB (defScope (top 19)) "_law_script" = true := by decide +kernel
  have s0 : Sto X (defScope (top 19)) "_law_script" := sto_c h.fn (by decide +kernel)
  have n1 : (["_law_script", "_law_net_here", "_law_reach_here", "_law_k", "_law_deck_here", "_law_makes_here", "_law_gone", "_law_handed", "_law_due", "_law_found", "_law_alone", "_law_make"] : List Str)[1]? = some ("_law_net_here" : Str) := rfl
  have v1 : visB (defScope (top 19)) "_law_net_here" = true := by decide +kernel
  have s1 : Sto X (defScope (top 19)) "_law_net_here" := sto_c h.fn (by decide +kernel)
  have n2 : (["_law_script", "_law_net_here", "_law_reach_here", "_law_k", "_law_deck_here", "_law_makes_here", "_law_gone", "_law_handed", "_law_due", "_law_found", "_law_alone", "_law_make"] : List Str)[2]? = some ("_law_reach_here" : Str) := rfl
  have v2 : visB (defScope (top 19)) "_law_reach_here" = true := by decide +kernel
  have s2 : Sto X (defScope (top 19)) "_law_reach_here" := sto_c h.fn (by decide +kernel)
  have n3 : (["_law_script", "_law_net_here", "_law_reach_here", "_law_k", "_law_deck_here", "_law_makes_here", "_law_gone", "_law_handed", "_law_due", "_law_found", "_law_alone", "_law_make"] : List Str)[3]? = some ("_law_k" : Str) := rfl
  have v3 : visB (defScope (top 19)) "_law_k" = true := by decide +kernel
  have s3 : Sto X (defScope (top 19)) "_law_k" := sto_c h.fn (by decide +kernel)
  have n4 : (["_law_script", "_law_net_here", "_law_reach_here", "_law_k", "_law_deck_here", "_law_makes_here", "_law_gone", "_law_handed", "_law_due", "_law_found", "_law_alone", "_law_make"] : List Str)[4]? = some ("_law_deck_here" : Str) := rfl
  have v4 : visB (defScope (top 19)) "_law_deck_here" = true := by decide +kernel
  have s4 : Sto X (defScope (top 19)) "_law_deck_here" := sto_c h.fn (by decide +kernel)
  have n5 : (["_law_script", "_law_net_here", "_law_reach_here", "_law_k", "_law_deck_here", "_law_makes_here", "_law_gone", "_law_handed", "_law_due", "_law_found", "_law_alone", "_law_make"] : List Str)[5]? = some ("_law_makes_here" : Str) := rfl
  have v5 : visB (defScope (top 19)) "_law_makes_here" = true := by decide +kernel
  have s5 : Sto X (defScope (top 19)) "_law_makes_here" := sto_c h.fn (by decide +kernel)
  have n6 : (["_law_script", "_law_net_here", "_law_reach_here", "_law_k", "_law_deck_here", "_law_makes_here", "_law_gone", "_law_handed", "_law_due", "_law_found", "_law_alone", "_law_make"] : List Str)[6]? = some ("_law_gone" : Str) := rfl
  have v6 : visB (defScope (top 19)) "_law_gone" = true := by decide +kernel
  have s6 : Sto X (defScope (top 19)) "_law_gone" := sto_c h.fn (by decide +kernel)
  have n7 : (["_law_script", "_law_net_here", "_law_reach_here", "_law_k", "_law_deck_here", "_law_makes_here", "_law_gone", "_law_handed", "_law_due", "_law_found", "_law_alone", "_law_make"] : List Str)[7]? = some ("_law_handed" : Str) := rfl
  have v7 : visB (defScope (top 19)) "_law_handed" = true := by decide +kernel
  have s7 : Sto X (defScope (top 19)) "_law_handed" := sto_c h.fn (by decide +kernel)
  have n8 : (["_law_script", "_law_net_here", "_law_reach_here", "_law_k", "_law_deck_here", "_law_makes_here", "_law_gone", "_law_handed", "_law_due", "_law_found", "_law_alone", "_law_make"] : List Str)[8]? = some ("_law_due" : Str) := rfl
  have v8 : visB (defScope (top 19)) "_law_due" = true := by decide +kernel
  have s8 : Sto X (defScope (top 19)) "_law_due" := sto_c h.fn (by decide +kernel)
  have n9 : (["_law_script", "_law_net_here", "_law_reach_here", "_law_k", "_law_deck_here", "_law_makes_here", "_law_gone", "_law_handed", "_law_due", "_law_found", "_law_alone", "_law_make"] : List Str)[9]? = some ("_law_found" : Str) := rfl
  have v9 : visB (defScope (top 19)) "_law_found" = true := by decide +kernel
  have s9 : Sto X (defScope (top 19)) "_law_found" := sto_c h.fn (by decide +kernel)
  have n10 : (["_law_script", "_law_net_here", "_law_reach_here", "_law_k", "_law_deck_here", "_law_makes_here", "_law_gone", "_law_handed", "_law_due", "_law_found", "_law_alone", "_law_make"] : List Str)[10]? = some ("_law_alone" : Str) := rfl
  have v10 : visB (defScope (top 19)) "_law_alone" = true := by decide +kernel
  have s10 : Sto X (defScope (top 19)) "_law_alone" := sto_c h.fn (by decide +kernel)
  have n11 : (["_law_script", "_law_net_here", "_law_reach_here", "_law_k", "_law_deck_here", "_law_makes_here", "_law_gone", "_law_handed", "_law_due", "_law_found", "_law_alone", "_law_make"] : List Str)[11]? = some ("_law_make" : Str) := rfl
  unfold b_p_law
  exact (cs_cons (c1_set C.toCf0 1 n1 s1 (ce_x (cx_callN C.toCf0 c_qnet (by decide +kernel) (fun _ _ => .nil) (cc_x (cx_call C.toCf0 c_qdeck (by decide +kernel) (fun _ _ => .nil) (ca_cons (ce_var C.toCf0 0 n0 (by decide +kernel)) (ca_cons ce_int ca_nil)))) (cnum_cons (cnum_cons cnum_nil))))) (cs_cons (c1_set C.toCf0 2 n2 s2 (ce_x (cx_call C.toCf0 c_qreach (by decide +kernel) (fun _ _ => .nil) (ca_cons (ce_var C.toCf0 1 n1 (by decide +kernel)) ca_nil)))) (cs_cons (c1_for C [3, 4, 5, 6, 7, 8, 9, 10] (ci_range2 C.toCf0 (by decide +kernel) hb_range ce_int (ce_max2 C (by decide +kernel) hb_max (ca_cons ce_int (ca_cons (ce_min2 C (by decide +kernel) hb_min (ca_cons (ce_len C.toCf0 (by decide +kernel) hb_len (ca_cons (ce_var C.toCf0 0 n0 (by decide +kernel)) ca_nil)) (ca_cons (ce_ixB C.toCf0 (ce_ofN (cn_lst (ca_cons ce_int (ca_cons ce_int ca_nil)))) (ce_intc C.toCf0 (by decide +kernel) hb_int (ca_cons (ce_gt (ce_len C.toCf0 (by decide +kernel) hb_len (ca_cons (ce_var C.toCf0 1 n1 (by decide +kernel)) ca_nil)) ce_int) ca_nil))) ca_nil))) ca_nil)))) (cg_name C.toCf0 3 n3 s3) (cs_cons (c1_setX C.toCf0 4 n4 s4 (cx_call C.toCf0 c_qdeck (by decide +kernel) (fun _ _ => .nil) (ca_cons (ce_var C.toCf0 0 n0 (by decide +kernel)) (ca_cons (ce_var C.toCf0 3 n3 (by decide +kernel)) ca_nil)))) (cs_cons (c1_set C.toCf0 5 n5 s5 (ce_x (cx_callC C.toCf0 0 c_qmakes (by decide +kernel) (fun _ _ => .nil) (ca_cons (ce_var C.toCf0 4 n4 (by decide +kernel)) (ca_cons (ce_len C.toCf0 (by decide +kernel) hb_len (ca_cons (ce_var C.toCf0 1 n1 (by decide +kernel)) ca_nil)) ca_nil))))) (cs_cons (c1_set C.toCf0 6 n6 s6 (ce_x (cx_callC C.toCf0 0 c_qbarred (by decide +kernel) (fun _ _ => .nil) (ca_cons (ce_var C.toCf0 4 n4 (by decide +kernel)) (ca_cons (ce_len C.toCf0 (by decide +kernel) hb_len (ca_cons (ce_var C.toCf0 1 n1 (by decide +kernel)) ca_nil)) ca_nil))))) (cs_cons (c1_set C.toCf0 7 n7 s7 (ce_ofN (cn_lst (ca_cons (ce_ofN (cn_list C.toCf0 (by decide +kernel) hb_list (ca_cons (ce_var C.toCf0 5 n5 (by decide +kernel)) ca_nil))) (ca_cons (ce_ofN (cn_list C.toCf0 (by decide +kernel) hb_list (ca_cons (ce_var C.toCf0 6 n6 (by decide +kernel)) ca_nil))) ca_nil))))) (cs_cons (c1_set C.toCf0 8 n8 s8 (ce_x (cx_call C.toCf0 c_qclasses (by decide +kernel) (fun _ _ => .nil) (ca_cons (ce_var C.toCf0 2 n2 (by decide +kernel)) (ca_cons (ce_var C.toCf0 5 n5 (by decide +kernel)) (ca_cons (ce_var C.toCf0 6 n6 (by decide +kernel)) ca_nil)))))) (cs_cons (c1_setX C.toCf0 9 n9 s9 (cx_call C.toCf0 c_p_classes (by decide +kernel) (fun _ _ => .nil) (ca_cons (ce_var C.toCf0 1 n1 (by decide +kernel)) (ca_cons (ce_ixB C.toCf0 (ce_var C.toCf0 7 n7 (by decide +kernel)) ce_int) (ca_cons (ce_ixB C.toCf0 (ce_var C.toCf0 7 n7 (by decide +kernel)) ce_int) ca_nil))))) (cs_cons (c1_if (ct_w (cw_or (ct_not (ct_of (ce_x (cx_call C.toCf0 c_qsame (by decide +kernel) (fun _ _ => .nil) (ca_cons (ce_var C.toCf0 9 n9 (by decide +kernel)) (ca_cons (ce_var C.toCf0 8 n8 (by decide +kernel)) ca_nil)))))) (cw_or1 (ct_cmp (ce_ne C.toCf0 (ce_var C.toCf0 7 n7 (by decide +kernel)) (ce_ofN (cn_lst (ca_cons (ce_frz (ce_var C.toCf0 5 n5 (by decide +kernel))) (ca_cons (ce_frz (ce_var C.toCf0 6 n6 (by decide +kernel))) ca_nil))))))))) (cs_cons (c1_ret ce_bool) cs_nil) cs_nil) (cs_cons (c1_expr (ce_reverse C.toCf0 9 n9 (by decide +kernel))) (cs_cons (c1_expr (ce_append C.toCf0 9 n9 (by decide +kernel) (ce_tup (ca_cons ce_int ca_nil)))) (cs_cons (c1_if (ct_not (ct_of (ce_x (cx_call C.toCf0 c_qsame (by decide +kernel) (fun _ _ => .nil) (ca_cons (ce_x (cx_call C.toCf0 c_p_classes (by decide +kernel) (fun _ _ => .nil) (ca_cons (ce_var C.toCf0 1 n1 (by decide +kernel)) (ca_cons (ce_ixB C.toCf0 (ce_var C.toCf0 7 n7 (by decide +kernel)) ce_int) (ca_cons (ce_ixB C.toCf0 (ce_var C.toCf0 7 n7 (by decide +kernel)) ce_int) ca_nil))))) (ca_cons (ce_var C.toCf0 8 n8 (by decide +kernel)) ca_nil)))))) (cs_cons (c1_ret ce_bool) cs_nil) cs_nil) (cs_cons (c1_if (ct_cmp (ce_ne C.toCf0 (ce_x (cx_callK C.toCf0 c_p_classes_barred (by decide +kernel) (fun _ _ => .nil) (ca_cons (ce_var C.toCf0 1 n1 (by decide +kernel)) (ca_cons (ce_var C.toCf0 5 n5 (by decide +kernel)) ca_nil)) (ck_cons (ce_tuple C.toCf0 (by decide +kernel) hb_tuple (ca_cons (ce_var C.toCf0 6 n6 (by decide +kernel)) ca_nil)) ck_nil))) (ce_var C.toCf0 8 n8 (by decide +kernel)))) (cs_cons (c1_ret ce_bool) cs_nil) cs_nil) (cs_cons (c1_lcD C rfl 10 n10 (by decide +kernel) (CompU.mk (own := [("_law_make", 11)]) (ci_seq (ce_ofN (cn_sset C (by decide +kernel) hb_sorted (by decide +kernel) hb_set (ce_var C.toCf0 5 n5 (by decide +kernel))))) (by decide +kernel) (fun _ _ _ _ _ => (cg_name (Cf.blk C).toCf0 11 n11 (sto_l (by decide +kernel)))) (fun _ _ _ _ _ => cts_nil) (fun _ _ _ _ _ => (ce_frz (ce_tup (ca_cons (ce_frz (ce_var (Cf.blk C).toCf0 11 n11 (by decide +kernel))) ca_nil)))) (by decide) (fun _ => rfl))) (cs_cons (c1_if (ct_w (cw_or (ct_not (ct_of (ce_x (cx_call C.toCf0 c_qsame (by decide +kernel) (fun _ _ => .nil) (ca_cons (ce_x (cx_call C.toCf0 c_p_classes_d1 (by decide +kernel) (fun _ _ => (.cons .non .nil)) (ca_cons (ce_var C.toCf0 1 n1 (by decide +kernel)) (ca_cons (ce_tuple C.toCf0 (by decide +kernel) hb_tuple (ca_cons (ce_var C.toCf0 5 n5 (by decide +kernel)) ca_nil)) ca_nil)))) (ca_cons (ce_var C.toCf0 10 n10 (by decide +kernel)) ca_nil)))))) (cw_or1 (ct_not (ct_of (ce_x (cx_call C.toCf0 c_qsame (by decide +kernel) (fun _ _ => .nil) (ca_cons (ce_x (cx_call C.toCf0 c_p_classes (by decide +kernel) (fun _ _ => .nil) (ca_cons (ce_var C.toCf0 1 n1 (by decide +kernel)) (ca_cons (ce_var C.toCf0 5 n5 (by decide +kernel)) (ca_cons ce_none ca_nil))))) (ca_cons (ce_var C.toCf0 10 n10 (by decide +kernel)) ca_nil))))))))) (cs_cons (c1_ret ce_bool) cs_nil) cs_nil) cs_nil)))))))))))))) (cs_cons (c1_ret ce_bool) cs_nil))))
end PDW
set_option linter.all false
set_option maxRecDepth 100000
set_option autoImplicit false
namespace PD
open PySem L2
end PD
set_option linter.all false
set_option maxRecDepth 100000
set_option autoImplicit false
namespace PD
open PySem L2
end PD
set_option linter.all false
set_option maxRecDepth 100000
set_option autoImplicit false
namespace PD
open PySem L2
theorem as_call {m : List Ar → R (Rs × List Sl)} {as : List Ar} {z : Rs × List Sl} (h : m as = .val z) : m as = .val z := h
local macro_rules
  | `(tactic| array_get_dec) => `(tactic| with_reducible first
  | exact e_C | exact a_nil | exact k_sub | exact k_and | exact k_or | exact k_eqI | exact k_neI | exact k_I | exact k_mx2 | exact k_mn2
  | apply e_I | apply e_add | apply e_neg | apply e_cmp | apply t_tst | apply t_not | apply e_not | apply t_or | apply t_and | apply e_and | apply e_or
  | apply k_mul | apply k_div | apply k_mod | apply k_pow | apply k_shl | apply k_shr
  | apply a_cons | apply n_lst | apply e_tup | apply e_ofN | apply c_l | apply x_c | apply e_B | apply n_B | apply e_isi
  | apply e_x | apply x_call | apply x_callE | apply x_callM | apply e_frzT | apply e_ap | apply i_seqL | apply i_seqT | apply i_enumL | apply i_enumT | apply i_range1 | apply i_range2 | apply n_lrng1 | apply n_lrng2)
local macro_rules
  | `(tactic| array_mem_dec) => `(tactic| repeat' first | exact e_frz (e_var rfl) | array_get_dec | exact e_var rfl | exact e_varO rfl | exact e_varI rfl | (refine as_call ?_; assumption) | exact k_neS | exact k_eqS | exact e_pop rfl | exact e_ixT (e_var rfl) e_C rfl | exact e_ixL (e_var rfl) e_C rfl | exact e_ixS (e_varI rfl) e_C rfl rfl | exact e_ixS (e_varO rfl) e_C rfl rfl | exact k_ninKS rfl | exact k_inKS rfl | exact k_lenI rfl | exact k_lenJ rfl | rfl | exact flat_int _ | (intro _))
local macro_rules
  | `(tactic| and_intros) => `(tactic| repeat (with_reducible first | apply w_seqN | apply w_seqA))
local macro_rules
  | `(tactic| bv_decide) => `(tactic| (and_intros; (with_reducible first | apply w_set | apply w_setX | apply w_setC | apply w_setG | apply w_expr | apply w_exprX | apply w_inc); array_mem_dec))
local macro_rules
  | `(tactic| bv_normalize) => `(tactic| (and_intros; apply w_ifN; array_mem_dec; (try (case hz => first | rfl | (simp [tyIs, isN, optI]; done) | (simp [tyIs, isN, optI]; omega))); and_intros))
local macro_rules
  | `(tactic| simp_all_arith) => `(tactic| (and_intros; apply w_ifY; array_mem_dec; (try (case hz => first | rfl | (simp [tyIs, isN, optI]; done) | (simp [tyIs, isN, optI]; omega))); and_intros))
local macro_rules
  | `(tactic| apply_assumption) => `(tactic| (and_intros; apply w_ifB; focus array_mem_dec))
local macro_rules
  | `(tactic| nofun) => `(tactic| (and_intros; (with_reducible first | apply w_ret | apply w_retX | apply w_retC | apply w_retO | apply w_ret0); array_mem_dec))
local macro_rules
  | `(tactic| ac_rfl) => `(tactic| (all_goals (try (with_reducible first | exact mulL (by decide) | exact mulR (by decide) | exact mulR (by omega) | exact mulL (by omega) | exact mulL (mod_64 (by decide) (by decide)) | exact modP (by first | assumption | decide | omega) | exact divP (by first | assumption | decide | omega) (by first | assumption | decide | omega) | exact cRng_of (by omega) (by omega) (by omega) (by omega)))))
end PD
section
open PySem L2 PD
local macro_rules
  | `(tactic| array_get_dec) => `(tactic| with_reducible first
  | exact e_C | exact a_nil | exact k_sub | exact k_and | exact k_or | exact k_eqI | exact k_neI | exact k_I | exact k_mx2 | exact k_mn2
  | apply e_I | apply e_add | apply e_neg | apply e_cmp | apply t_tst | apply t_not | apply e_not | apply t_or | apply t_and | apply e_and | apply e_or
  | apply k_mul | apply k_div | apply k_mod | apply k_pow | apply k_shl | apply k_shr
  | apply a_cons | apply n_lst | apply e_tup | apply e_ofN | apply c_l | apply x_c | apply e_B | apply n_B | apply e_isi
  | apply e_x | apply x_call | apply x_callE | apply x_callM | apply e_frzT | apply e_ap | apply i_seqL | apply i_seqT | apply i_enumL | apply i_enumT | apply i_range1 | apply i_range2 | apply n_lrng1 | apply n_lrng2)
local macro_rules
  | `(tactic| array_mem_dec) => `(tactic| repeat' first | exact e_frz (e_var rfl) | array_get_dec | exact e_var rfl | exact e_varO rfl | exact e_varI rfl | (refine as_call ?_; assumption) | exact k_neS | exact k_eqS | exact e_pop rfl | exact e_ixT (e_var rfl) e_C rfl | exact e_ixL (e_var rfl) e_C rfl | exact e_ixS (e_varI rfl) e_C rfl rfl | exact e_ixS (e_varO rfl) e_C rfl rfl | exact k_ninKS rfl | exact k_inKS rfl | exact k_lenI rfl | exact k_lenJ rfl | rfl | exact flat_int _ | (intro _))
local macro_rules
  | `(tactic| and_intros) => `(tactic| repeat (with_reducible first | apply w_seqN | apply w_seqA))
local macro_rules
  | `(tactic| bv_decide) => `(tactic| (and_intros; (with_reducible first | apply w_set | apply w_setX | apply w_setC | apply w_setG | apply w_expr | apply w_exprX | apply w_inc); array_mem_dec))
local macro_rules
  | `(tactic| bv_normalize) => `(tactic| (and_intros; apply w_ifN; array_mem_dec; (try (case hz => first | rfl | (simp [tyIs, isN, optI]; done) | (simp [tyIs, isN, optI]; omega))); and_intros))
local macro_rules
  | `(tactic| simp_all_arith) => `(tactic| (and_intros; apply w_ifY; array_mem_dec; (try (case hz => first | rfl | (simp [tyIs, isN, optI]; done) | (simp [tyIs, isN, optI]; omega))); and_intros))
local macro_rules
  | `(tactic| apply_assumption) => `(tactic| (and_intros; apply w_ifB; focus array_mem_dec))
local macro_rules
  | `(tactic| nofun) => `(tactic| (and_intros; (with_reducible first | apply w_ret | apply w_retX | apply w_retC | apply w_retO | apply w_ret0); array_mem_dec))
local macro_rules
  | `(tactic| ac_rfl) => `(tactic| (all_goals (try (with_reducible first | exact mulL (by decide) | exact mulR (by decide) | exact mulR (by omega) | exact mulL (by omega) | exact mulL (mod_64 (by decide) (by decide)) | exact modP (by first | assumption | decide | omega) | exact divP (by first | assumption | decide | omega) (by first | assumption | decide | omega) | exact cRng_of (by omega) (by omega) (by omega) (by omega)))))
set_option linter.all false
set_option maxRecDepth 100000
set_option autoImplicit false
namespace PD
open PySem L2
def WE (b : DS) (Γ : List Sl) (x : Exn) : Prop := b Γ = .exc x
section
variable {Γ Γ1 Γ2 : List Sl} {f g : DF} {b r r2 c2 : DS} {x : DX} {t : DT} {fr z : Bool} {d : PyData} {P : Fw → List Sl → Prop} {m i : Nat} {y : Exn} {k : DA} {as : List AV} {ds : List PyData}
theorem we_seqN (h : WE r Γ y) : WE (bSeq bNil r) Γ y := h
theorem we_seqA (h : WE (bSeq b (bSeq r r2)) Γ y) : WE (bSeq (bSeq b r) r2) Γ y := by
  have e : bSeq (bSeq b r) r2 Γ = bSeq b (bSeq r r2) Γ := by
    unfold bSeq
    rw [R.bind_assoc]
    congr 1
    funext z
    obtain ⟨w, Γ1⟩ := z
    cases w <;> rfl
  unfold WE
  rw [e]
  exact h
theorem we_ifY (h1 : t Γ = .val (z, Γ1)) (hz : z = true) (h : WE (bSeq b r) Γ1 y) : WE (bSeq (bIf t b c2) r) Γ y := by
  subst hz
  have e : bSeq (bIf t b c2) r Γ = bSeq b r Γ1 := by
    unfold bSeq bIf
    rw [h1, bind_val]; rfl
  unfold WE
  rw [e]; exact h
theorem we_ifN (h1 : t Γ = .val (z, Γ1)) (hz : z = false) (h : WE (bSeq c2 r) Γ1 y) : WE (bSeq (bIf t b c2) r) Γ y := by
  subst hz
  have e : bSeq (bIf t b c2) r Γ = bSeq c2 r Γ1 := by
    unfold bSeq bIf
    rw [h1, bind_val]; rfl
  unfold WE
  rw [e]; exact h
end
local macro_rules
  | `(tactic| injections) => `(tactic| repeat (with_reducible first | apply we_seqN | apply we_seqA))
local macro_rules
  | `(tactic| false_or_by_contra) => `(tactic| (injections; apply we_ifN; array_mem_dec; (try (case hz => first | rfl | (simp [tyIs, isN, optI]; done) | (simp [tyIs, isN, optI]; omega))); injections))
local macro_rules
  | `(tactic| subst_eqs) => `(tactic| (injections; apply we_ifY; array_mem_dec; (try (case hz => first | rfl | (simp [tyIs, isN, optI]; done) | (simp [tyIs, isN, optI]; omega))); injections))
end PD
section
open PySem L2 PD
local macro_rules
  | `(tactic| injections) => `(tactic| repeat (with_reducible first | apply we_seqN | apply we_seqA))
local macro_rules
  | `(tactic| false_or_by_contra) => `(tactic| (injections; apply we_ifN; array_mem_dec; (try (case hz => first | rfl | (simp [tyIs, isN, optI]; done) | (simp [tyIs, isN, optI]; omega))); injections))
local macro_rules
  | `(tactic| subst_eqs) => `(tactic| (injections; apply we_ifY; array_mem_dec; (try (case hz => first | rfl | (simp [tyIs, isN, optI]; done) | (simp [tyIs, isN, optI]; omega))); injections))
set_option linter.all false
set_option maxRecDepth 100000
set_option autoImplicit false
namespace PD
open PySem L2
def El (net : List (List Int)) (m e : Nat) : Prop := ∃ row, net[m]? = some row ∧ ((e : Nat) : Int) ∈ row
inductive Wk (net : List (List Int)) (y : Nat) : Nat → Nat → Prop
  | nil : Wk net y y 0
  | snoc {m n e : Nat} : Wk net y m n → El net m e → Wk net y e (n + 1)
theorem wk0 {net : List (List Int)} {y o : Nat} (h : Wk net y o 0) : o = y := by cases h; rfl
theorem El.lt {net : List (List Int)} (hN : NetOk net) {m e : Nat} (h : El net m e) : e < m := by
  obtain ⟨row, h1, h2⟩ := h
  have := ((hN m row h1).1 _ h2).2
  omega
theorem Wk.le {net : List (List Int)} (hN : NetOk net) {y o n : Nat} (h : Wk net y o n) : o + n ≤ y := by
  induction h with
  | nil => omega
  | snoc a b ih => have := b.lt hN; omega
def Lst (S : Nat → Prop) : Option Nat → Prop
  | none => ∀ n, ¬ S n
  | some n => S n ∧ ∀ k, S k → n ≤ k
theorem lst_iff {S T : Nat → Prop} {a : Option Nat} (h : Lst S a) (e : ∀ n, S n ↔ T n) : Lst T a := by
  cases a with
  | none => exact fun n => fun z => h n ((e n).mpr z)
  | some n => exact ⟨(e n).mp h.1, fun k z => h.2 k ((e k).mpr z)⟩
abbrev Ds (net : List (List Int)) (y o : Nat) (a : Option Nat) : Prop := Lst (Wk net y o) a
def StOk (len : Nat) (st : List (Option Nat)) (S : Nat → Nat → Prop) : Prop := st.length = len ∧ ∀ (m : Nat) (a : Option Nat), st[m]? = some a → Lst (S m) a
theorem StOk.iff {len : Nat} {st : List (Option Nat)} {S T : Nat → Nat → Prop} (h : StOk len st S) (e : ∀ m n, S m n ↔ T m n) : StOk len st T := ⟨h.1, fun m a ha => lst_iff (h.2 m a ha) (e m)⟩
end PD
set_option linter.all false
set_option maxRecDepth 100000
set_option autoImplicit false
namespace PD
open PySem L2
theorem nodup_len : ∀ (n : Nat) (xs : List Int), xs.Nodup → (∀ x ∈ xs, 0 ≤ x ∧ x < (n : Int)) → xs.length ≤ n
  | 0, xs, _, h => by
    cases xs with
    | nil => simp
    | cons a r => have := h a (by simp); omega
  | n + 1, xs, hn, h => by
    have h1 := nodup_len n (xs.filter fun x => decide (x ≠ (n : Int))) (hn.sublist List.filter_sublist) fun x hx => by
      have q := List.mem_filter.mp hx
      have q1 := h x q.1
      have q2 : x ≠ (n : Int) := by simpa using q.2
      omega
    have h2 : (xs.filter fun x => decide (x ≠ (n : Int))).length + xs.count (n : Int) = xs.length := by
      have : xs.count (n : Int) = (xs.filter fun x => !decide (x ≠ (n : Int))).length := by
        rw [List.count_eq_length_filter]
        congr 1
        apply List.filter_congr
        intro x _
        by_cases e : x = (n : Int) <;> simp [e]
      rw [this]
      exact filt_sum (fun x => decide (x ≠ (n : Int))) xs
    have h3 : xs.count (n : Int) ≤ 1 := List.nodup_iff_count.mp hn _
    show xs.length ≤ n + 1
    have h1 : (xs.filter fun x => decide (x ≠ (n : Int))).length ≤ n := h1
    generalize (xs.filter fun x => decide (x ≠ (n : Int))).length = q at h1 h2
    omega
structure Mid (net : List (List Int)) (y L : Nat) (E : Nat → Prop) (kvs : List (Int × PyData)) (found : List Int) : Prop where
  has : ∀ e : Nat, (lookI kvs (e : Int)).isSome = true ↔ (∃ n, n ≤ L ∧ Wk net y e n) ∨ E e
  nat : ∀ k ∈ kvs.map (·.1), 0 ≤ k ∧ k < ((y + 1 : Nat) : Int)
  val : ∀ (e : Nat) (v : PyData), lookI kvs (e : Int) = some v → (e = y ∧ v = .none) ∨ ∃ m n : Nat, v = .int (m : Int) ∧ Ds net y m (some n) ∧ Ds net y e (some (n + 1)) ∧ El net m e
  fnd : ∀ x : Int, x ∈ found ↔ ∃ e : Nat, x = (e : Int) ∧ E e ∧ ¬ ∃ n, n ≤ L ∧ Wk net y e n
  nd : (kvs.map (·.1)).Nodup
  fl : found.length ≤ kvs.length
  fv : ∀ z ∈ kvs, flat z.2 = true
theorem Mid.len {net : List (List Int)} {y L : Nat} {E : Nat → Prop} {kvs : List (Int × PyData)} {found : List Int} (h : Mid net y L E kvs found) : kvs.length ≤ y + 1 := by
  have := nodup_len (y + 1) _ h.nd h.nat
  rw [List.length_map] at this
  exact this
theorem Mid.iff {net : List (List Int)} {y L : Nat} {E E' : Nat → Prop} {kvs : List (Int × PyData)} {found : List Int} (h : Mid net y L E kvs found) (e : ∀ x, E x ↔ E' x) : Mid net y L E' kvs found := by
  have : E = E' := funext fun x => propext (e x)
  subst this
  exact h
theorem Mid.old {net : List (List Int)} {y L : Nat} {E : Nat → Prop} {kvs : List (Int × PyData)} {found : List Int} (h : Mid net y L E kvs found) {e : Nat} (he : (lookI kvs (e : Int)).isSome = true) : Mid net y L (fun x => E x ∨ x = e) kvs found := by
  refine ⟨fun x => ?_, h.nat, h.val, fun x => ?_, h.nd, h.fl, h.fv⟩
  · rw [h.has]
    constructor
    · rintro (a | a)
      · exact .inl a
      · exact .inr (.inl a)
    · rintro (a | a | a)
      · exact .inl a
      · exact .inr a
      · subst a; exact (h.has _).mp he
  · rw [h.fnd]
    constructor
    · rintro ⟨z, h1, h2, h3⟩
      exact ⟨z, h1, .inl h2, h3⟩
    · rintro ⟨z, h1, h2 | h2, h3⟩
      · exact ⟨z, h1, h2, h3⟩
      · subst h2
        exact ⟨z, h1, ((h.has z).mp he).resolve_left h3, h3⟩
theorem Mid.new {net : List (List Int)} (hN : NetOk net) {y L : Nat} {E : Nat → Prop} {kvs : List (Int × PyData)} {found : List Int} (h : Mid net y L E kvs found) {m e : Nat} (he : lookI kvs (e : Int) = none) (hm : Ds net y m (some L)) (hl : El net m e) :
    Mid net y L (fun x => E x ∨ x = e) (putI kvs (e : Int) (.int (m : Int))) (found ++ [(e : Int)]) := by
  have hno : ¬ ((∃ n, n ≤ L ∧ Wk net y e n) ∨ E e) := fun z => by
    have := (h.has e).mpr z
    rw [he] at this; cases this
  have hle := (Wk.snoc hm.1 hl).le hN
  refine ⟨fun x => ?_, ?_, fun x v hv => ?_, fun x => ?_, ?_, ?_, ?_⟩
  · rw [lookI_put]
    by_cases q : ((x : Nat) : Int) = (e : Nat)
    · rw [if_pos q]
      have : x = e := by omega
      simp [this]
    · rw [if_neg q, h.has]
      have : x ≠ e := by omega
      simp [this]
  · rw [putI_new _ he]
    intro k hk
    rw [List.map_append, List.mem_append] at hk
    rcases hk with hk | hk
    · exact h.nat k hk
    · have : k = (e : Int) := by simpa using hk
      omega
  · rw [lookI_put] at hv
    by_cases q : ((x : Nat) : Int) = (e : Nat)
    · rw [if_pos q] at hv
      have : x = e := by omega
      subst this
      cases hv
      refine .inr ⟨m, L, rfl, hm, ⟨.snoc hm.1 hl, fun k hk => ?_⟩, hl⟩
      by_cases z : k ≤ L
      · exact absurd (.inl ⟨k, z, hk⟩) hno
      · omega
    · rw [if_neg q] at hv
      exact h.val x v hv
  · rw [List.mem_append, h.fnd]
    constructor
    · rintro (⟨z, h1, h2, h3⟩ | h1)
      · exact ⟨z, h1, .inl h2, h3⟩
      · exact ⟨e, by simpa using h1, .inr rfl, fun z => hno (.inl z)⟩
    · rintro ⟨z, h1, h2 | h2, h3⟩
      · exact .inl ⟨z, h1, h2, h3⟩
      · subst h2; exact .inr (by simp [h1])
  · rw [putI_new _ he, List.map_append, List.nodup_append]
    refine ⟨h.nd, by simp, fun a ha b hb => ?_⟩
    have : b = (e : Int) := by simpa using hb
    subst this
    rintro rfl
    obtain ⟨z, hz, hz2⟩ := List.mem_map.mp ha
    exact lookI_none.mp he z.2 (by rw [← hz2]; exact hz)
  · rw [putI_new _ he]
    have := h.fl
    simp; omega
  · rw [putI_new _ he]
    intro z hz
    rcases List.mem_append.mp hz with hz | hz
    · exact h.fv z hz
    · have : z = ((e : Int), PyData.int (m : Int)) := by simpa using hz
      subst this; rfl
abbrev YOk (net : List (List Int)) (y L : Nat) (kvs : List (Int × PyData)) : Prop := Mid net y L (fun _ => False) kvs []
theorem y0 (net : List (List Int)) (y : Nat) : YOk net y 0 [((y : Int), .none)] where
  has := fun e => by
    rw [lookI_cons, lookI_nil]
    simp only [Nat.le_zero_eq, or_false, exists_eq_left]
    constructor
    · intro h
      by_cases q : (y : Int) = (e : Int)
      · have : y = e := by omega
        subst this; exact .nil
      · rw [if_neg q] at h; cases h
    · intro h
      have := wk0 h
      subst this
      simp
  nat := by simp; omega
  val := fun e v h => by
    rw [lookI_cons, lookI_nil] at h
    by_cases q : (y : Int) = (e : Int)
    · rw [if_pos q] at h; cases h; exact .inl ⟨by omega, rfl⟩
    · rw [if_neg q] at h; cases h
  fnd := by simp
  nd := by simp
  fl := by simp
  fv := by simp [flat]
structure WayOk (net : List (List Int)) (y o n : Nat) (w : List Nat) : Prop where
  len : w.length = n + 1
  fst : w[0]? = some y
  lst : w[n]? = some o
  stp : ∀ (k a b : Nat), w[k]? = some a → w[k + 1]? = some b → El net a b
end PD
set_option linter.all false
set_option maxRecDepth 100000
set_option autoImplicit false
namespace PD
open PySem L2
theorem bits_q (net : List (List Int)) (hN : NetOk net) (hn : net.length ≤ 1000) : ∃ bs, BitsOk net bs ∧ uBitsOf [.d (dTT net)] = .val (.c (.lst (bs.map PyData.int)), [.un]) := bitsOf_u net hN hn
theorem isIn_q (m k : Int) (hk : 0 ≤ k) : uIsIn [.d (.int m), .d (.int k)] = .val (.d (.bool (inb m k)), [.un, .un]) := isIn_u m k hk
theorem inb_anc {net : List (List Int)} {bs : List Int} (h : BitsOk net bs) {k : Nat} {b : Int} (hb : bs[k]? = some b) (j : Nat) : inb b (j : Int) = true ↔ Anc net k j := by
  unfold inb
  rw [decide_eq_true_iff, isIn_msk (h.2 k b hb) (by omega)]
  simp
structure Ord (rows : List (List Int)) (order back : List Nat) : Prop where
  ol : order.length = rows.length
  bl : back.length = rows.length
  ob : ∀ p m : Nat, order[p]? = some m → back[m]? = some p
  bo : ∀ m p : Nat, back[m]? = some p → order[p]? = some m
  top : ∀ m e : Nat, El rows m e → ∀ p : Nat, back[m]? = some p → ∃ q : Nat, back[e]? = some q ∧ q < p
theorem Ord.lt {rows : List (List Int)} {order back : List Nat} (h : Ord rows order back) {p m : Nat} (hp : order[p]? = some m) : m < rows.length := by
  rw [← h.bl]
  exact (List.getElem?_eq_some_iff.mp (h.ob p m hp)).1
theorem insS_len (k : Int) : ∀ ns : List Int, (insS k ns).length ≤ ns.length + 1
  | [] => by simp [insS]
  | n :: ns => by
    have := insS_len k ns
    unfold insS
    split
    · simp
    · split
      · simp
      · simp; omega
theorem setI_len : ∀ ns : List Int, (setI ns).length ≤ ns.length
  | [] => by simp [setI]
  | n :: ns => by
    have h1 := setI_len ns
    have h2 := insS_len n (setI ns)
    simp only [setI, List.length_cons]
    omega
abbrev mD (tp : Bool) (ns : List Int) : PyData := if tp then dT ns else dL ns
theorem seq_mD {Γ : List Sl} {m : Nat} {fr tp : Bool} {ns : List Int} (h : Γ[m]? = some (.dat fr (mD tp ns))) : iSeq (dVar m) Γ = .val ((ns.map PyData.int, fr), Γ) := by
  cases tp with
  | true => exact i_seqT (e_var h)
  | false => exact i_seqL (e_var h)
theorem sc_mD {tp : Bool} {ns : List Int} : scD (mD tp ns) = false := by cases tp <;> rfl
end PD
set_option linter.all false
set_option maxRecDepth 100000
set_option autoImplicit false
namespace PD
open PySem L2
end PD
set_option linter.all false
set_option maxRecDepth 100000
set_option maxHeartbeats 0
set_option autoImplicit false
namespace PD
open PySem L2
theorem n_compS {α : Type} {enc : α → PyData} (xs : List α) {S : Type} (Rel : Nat → List PyData → S → Prop) (sh : S → List Sl) (s0 : S) {vs : List Nat} {g : DG} {it : DI} {t : DT} {e : DF} {Γ Γ1 : List Sl} {fr : Bool} (h1 : it Γ = .val ((xs.map enc, fr), Γ1)) (hs : xs.length < 2 ^ 20) (h0 : wipeG Γ1 vs = sh s0) (hr : Rel 0 [] s0)
    (hb : ∀ (i : Nat) (x : α) (out : List PyData) (s : S), xs[i]? = some x → Rel i out s → ∃ Γ2, g fr (enc x) (sh s) = some Γ2 ∧ ∃ z Γ3, t Γ2 = .val (z, Γ3) ∧ (z = true → ∃ o Γ4 s', e Γ3 = .val (.d true o, Γ4) ∧ wipeG Γ4 vs = sh s' ∧ Rel (i + 1) (out ++ [o]) s') ∧ (z = false → ∃ s', wipeG Γ3 vs = sh s' ∧ Rel (i + 1) out s')) :
    ∃ out s, nComp vs g it t e Γ = .val (out, sh s) ∧ Rel xs.length out s := by
  have key : Ok (nComp vs g it t e Γ) fun z => ∃ s, z.2 = sh s ∧ Rel xs.length z.1 s := by
    unfold nComp
    rw [h1, bind_val]
    have : szB (xs.map enc) = true := szB_map hs
    show Ok ((R.req (szB (xs.map enc))).bind _) _
    rw [this, req_true, bind_val, h0]
    refine ok_compU (fun i out Γ => ∃ s, Γ = sh s ∧ Rel i out s) (xs.map enc) ⟨s0, rfl, hr⟩ (fun i d out Γ hd hI => ?_) fun out Γ hI => ?_
    · obtain ⟨s, rfl, hI⟩ := hI
      obtain ⟨x, hx, rfl⟩ := gmap hd
      obtain ⟨Γ2, q1, z, Γ3, q2, hT, hF⟩ := hb i x out s hx hI
      refine ⟨Γ2, q1, ok_of q2 ?_⟩
      cases z with
      | true =>
        obtain ⟨o, Γ4, s', q3, q4, q5⟩ := hT rfl
        exact ok_of q3 ⟨o, rfl, s', q4, q5⟩
      | false =>
        obtain ⟨s', q4, q5⟩ := hF rfl
        exact ⟨s', q4, q5⟩
    · rw [List.length_map] at hI
      exact hI
  obtain ⟨⟨out, Γ'⟩, e1, s, h2, h3⟩ := key
  have h2 : Γ' = sh s := h2
  subst h2
  exact ⟨out, s, e1, h3⟩
theorem e_andT {Γ Γ1 Γ2 : List Sl} {f g : DF} {f1 f2 z x : Bool} (h1 : f Γ = .val (.d f1 (.bool x), Γ1)) (hx : x = true) (h2 : g Γ1 = .val (.d f2 (.bool z), Γ2)) : dAnd f g Γ = .val (.d true (.bool z), Γ2) := by
  subst hx
  unfold dAnd; rw [h1, bind_val]
  show ((g Γ1).bind _) = _
  rw [h2]; rfl
theorem e_andF {Γ Γ1 : List Sl} {f g : DF} {f1 x : Bool} (h1 : f Γ = .val (.d f1 (.bool x), Γ1)) (hx : x = false) : dAnd f g Γ = .val (.d true (.bool false), Γ1) := by
  subst hx
  unfold dAnd; rw [h1]; rfl
abbrev Dk3 := Int × Int × Int
abbrev dk (d : Dk3) : Cl := .lst [.int d.1, .int d.2.1, .int d.2.2]
def BB (d : Dk3) (B : Nat) : Prop := 0 ≤ d.2.1 ∧ d.2.1 ≤ (B : Int)
theorem BB.mono {d : Dk3} {B C : Nat} (h : BB d B) (hc : B ≤ C) : BB d C := ⟨h.1, by have := h.2; omega⟩
theorem draw_q (d : Dk3) (B : Nat) (hd : BB d B) (hB : B < 2 ^ 60) (m : Int) (hm : 0 < m) (hm2 : m < 2 ^ 64) : ∃ (r : Int) (d' : Dk3), u_qdraw [.c (dk d), .d (.int m)] = .val (.d (.int r), [.io (dk d'), .un]) ∧ 0 ≤ r ∧ r < m ∧ BB d' (B + 1) := by
  obtain ⟨h0, h1⟩ := hd
  have key : Ok (u_qdraw [.c (dk d), .d (.int m)]) fun z => ∃ (r : Int) (d' : Dk3), z = (.d (.int r), [.io (dk d'), .un]) ∧ 0 ≤ r ∧ r < m ∧ BB d' (B + 1) := by
    refine ok_run rfl ?_
    unfold b_qdraw
    apply_assumption
    · intro _
      bv_decide
      ac_rfl
      and_intros
      apply w_put
      · exact e_frz (e_I (e_ixS (e_varI rfl) e_C rfl rfl) (e_var rfl) (k_div (divP hm hm2)))
      · rfl
      · exact e_C
      · rfl
      · exact putC_lst (j := 0) (by simp)
      nofun
      exact ⟨_, _, rfl, rfl, _, (d.1 / m, d.2.1, d.2.2), rfl, Int.emod_nonneg _ (by omega), Int.emod_lt_of_pos _ hm, h0, by dsimp only; omega⟩
    · intro _
      and_intros
      apply w_put
      · exact e_frz (e_add (e_ixS (e_varI rfl) e_C rfl rfl) e_C)
      · rfl
      · exact e_C
      · rfl
      · exact putC_lst (j := 1) (by simp)
      bv_decide
      ac_rfl
      nofun
      ac_rfl
      exact ⟨_, _, rfl, rfl, _, (d.1, d.2.1 + 1, d.2.2), rfl, Int.emod_nonneg _ (by omega), Int.emod_lt_of_pos _ hm, by dsimp only; omega, by dsimp only; omega⟩
  obtain ⟨z, e, r, d', rfl, h⟩ := key
  exact ⟨r, d', e, h⟩
theorem deck_q (ns : List Int) (k : Nat) : ∃ d : Dk3, u_qdeck [.d (dL ns), .d (.int (k : Nat))] = .val (.c (dk d), [.un, .un]) ∧ BB d 0 := by
  have key : Ok (u_qdeck [.d (dL ns), .d (.int (k : Nat))]) fun z => ∃ d : Dk3, z = (.c (dk d), [.un, .un]) ∧ BB d 0 := by
    refine ok_run rfl ?_
    unfold b_qdeck
    bv_decide
    refine w_ifJ (S := Int) (fun _ => True) (fun c => [.dat false (dL ns), .dat true (.int (k : Nat)), .dat true (.int c)]) (t_tst (e_cmp (e_var rfl) (e_B (a_cons (e_var rfl) a_nil) (k_lenI rfl)) k_I)) ?_ ?_ ?_
    · intro hz
      have hz : k < ns.length := by simp at hz; omega
      bv_decide
      · exact e_ixL (e_var rfl) (e_var rfl) (at_nat (List.getElem?_eq_getElem hz))
      · rfl
      exact w_nil ⟨_, rfl, trivial⟩
    · intro _
      exact w_nil ⟨0, rfl, trivial⟩
    · rintro c _
      apply_assumption
      · intro _
        nofun
        ac_rfl
        exact ⟨_, _, rfl, rfl, (0, 0, _), rfl, by simp [BB]⟩
      · intro _
        nofun
        ac_rfl
        exact ⟨_, _, rfl, rfl, (c, 0, _), rfl, by simp [BB]⟩
  obtain ⟨z, e, d, rfl, h⟩ := key
  exact ⟨d, e, h⟩
theorem at4 {a b c d : PyData} {w : Int} (h0 : 0 ≤ w) (h1 : w < 4) : atI [a, b, c, d] w = some (if w = 0 then a else if w = 1 then b else if w = 2 then c else d) := by
  have : w = 0 ∨ w = 1 ∨ w = 2 ∨ w = 3 := by omega
  rcases this with rfl | rfl | rfl | rfl <;> rfl
theorem isElder_q (d : Dk3) (B : Nat) (hd : BB d B) (hB : B < 2 ^ 59) (way make el : Int) (h0 : 0 ≤ way) (h1 : way < 8) : ∃ (b : Bool) (d' : Dk3), u_qis_elder [.c (dk d), .d (.int way), .d (.int make), .d (.int el)] = .val (.d (.bool b), [.io (dk d'), .un, .un, .un]) ∧ BB d' (B + 1) := by
  have key : Ok (u_qis_elder [.c (dk d), .d (.int way), .d (.int make), .d (.int el)]) fun z => ∃ (b : Bool) (d' : Dk3), z = (.d (.bool b), [.io (dk d'), .un, .un, .un]) ∧ BB d' (B + 1) := by
    refine ok_run rfl ?_
    unfold b_qis_elder
    apply_assumption
    · intro hz
      have hz : way < 4 := by simpa using hz
      have hm := at4 (a := .int 2) (b := .int 2) (c := .int 3) (d := .int 4) h0 hz
      obtain ⟨m, hm, m0, m1⟩ : ∃ m : Int, atI [PyData.int 2, .int 2, .int 3, .int 4] way = some (.int m) ∧ 0 < m ∧ m < 2 ^ 64 := by
        rw [hm]
        split
        · exact ⟨2, rfl, by omega, by omega⟩
        · split
          · exact ⟨2, rfl, by omega, by omega⟩
          · split
            · exact ⟨3, rfl, by omega, by omega⟩
            · exact ⟨4, rfl, by omega, by omega⟩
      obtain ⟨r, d', hr, r0, r1, hd'⟩ := draw_q d B hd (by omega) m m0 m1
      and_intros
      apply w_ret
      · apply e_cmp
        · apply e_x
          · apply x_callE
            · apply a_cons
              · exact e_varI rfl
              · apply a_cons
                · apply e_ixL
                  · array_mem_dec
                  · exact e_var rfl
                  · exact hm
                · exact a_nil
            · rfl
            · rfl
            · rfl
            · rfl
            · exact hr
            · rfl
            · rfl
          · rfl
        · exact e_C
        · exact k_eqI
      exact ⟨_, _, rfl, rfl, _, d', rfl, hd'⟩
    · intro hz
      have hz : 4 ≤ way := by simpa using hz
      obtain ⟨r, d', hr, r0, r1, hd'⟩ := draw_q d B hd (by omega) 2 (by omega) (by omega)
      apply_assumption
      · intro _
        and_intros
        by_cases hc : make % 2 = el % 2
        · apply w_ret
          · apply e_andT
            · exact e_cmp (e_I (e_var rfl) e_C (k_mod (modP (by decide)))) (e_I (e_var rfl) e_C (k_mod (modP (by decide)))) k_eqI
            · exact decide_eq_true hc
            · apply e_cmp
              · array_mem_dec
              · exact e_C
              · exact k_eqI
          exact ⟨_, _, rfl, rfl, _, d', rfl, hd'⟩
        · apply w_ret
          · apply e_andF
            · exact e_cmp (e_I (e_var rfl) e_C (k_mod (modP (by decide)))) (e_I (e_var rfl) e_C (k_mod (modP (by decide)))) k_eqI
            · exact decide_eq_false hc
          exact ⟨_, _, rfl, rfl, _, d, rfl, hd.mono (by omega)⟩
      · intro _
        and_intros
        have hm := at4 (a := .int (make - 1)) (b := .int 0) (c := .int 0) (d := .int ((make - 1) / 2)) (w := way - 4) (by omega) (by omega)
        obtain ⟨m, hm⟩ : ∃ m : Int, atI [PyData.int (make - 1), .int 0, .int 0, .int ((make - 1) / 2)] (way - 4) = some (.int m) := by
          rw [hm]
          split
          · exact ⟨_, rfl⟩
          · split
            · exact ⟨_, rfl⟩
            · split <;> exact ⟨_, rfl⟩
        apply w_ret
        · apply e_cmp
          · exact e_var rfl
          · apply e_ixL
            · array_mem_dec
              ac_rfl
            · array_mem_dec
            · exact hm
          · exact k_eqI
        exact ⟨_, _, rfl, rfl, _, d, rfl, hd.mono (by omega)⟩
  obtain ⟨z, e, b, d', rfl, h⟩ := key
  exact ⟨b, d', e, h⟩
theorem netOk_snoc {net : List (List Int)} {row : List Int} (h : NetOk net) (h1 : ∀ e ∈ row, 0 ≤ e ∧ e < (net.length : Int)) (h2 : row.Pairwise (· < ·)) : NetOk (net ++ [row]) := by
  intro k r hr
  by_cases hk : k < net.length
  · rw [List.getElem?_append_left hk] at hr
    exact h k r hr
  · have hk2 : k < (net ++ [row]).length := (List.getElem?_eq_some_iff.mp hr).1
    simp at hk2
    have : k = net.length := by omega
    subst this
    simp at hr
    subst hr
    exact ⟨h1, h2⟩
theorem net_q (d : Dk3) (B : Nat) (hd : BB d B) (hB : B < 2 ^ 50) (most great : Nat) (h1 : 1 ≤ most) (h2 : 1 ≤ great) (h3 : most ≤ 100) (h4 : great ≤ 100) : ∃ (net : List (List Int)) (d' : Dk3), u_qnet [.c (dk d), .d (.int (most : Nat)), .d (.int (great : Nat))] = .val (.d (dTT net), [.io (dk d'), .un, .un]) ∧ NetOk net ∧ 1 ≤ net.length ∧ (net.length ≤ most ∨ net.length ≤ great) ∧ BB d' (B + 20000) := by
  have key : Ok (u_qnet [.c (dk d), .d (.int (most : Nat)), .d (.int (great : Nat))]) fun z => ∃ (net : List (List Int)) (d' : Dk3), z = (.d (dTT net), [.io (dk d'), .un, .un]) ∧ NetOk net ∧ 1 ≤ net.length ∧ (net.length ≤ most ∨ net.length ≤ great) ∧ BB d' (B + 20000) := by
    refine ok_run rfl ?_
    unfold b_qnet
    obtain ⟨r1, d1, hr1, r10, r11, hd1⟩ := draw_q d B hd (by omega) 8 (by omega) (by omega)
    obtain ⟨bd, hbd, b0, b1⟩ : ∃ bd : Nat, atI [PyData.int (most : Nat), .int (great : Nat)] (b2n (decide (r1 = 5))) = some (.int (bd : Nat)) ∧ 1 ≤ bd ∧ (bd = most ∨ bd = great) := by
      by_cases h : r1 = 5
      · rw [decide_eq_true h]; exact ⟨great, rfl, h2, .inr rfl⟩
      · rw [decide_eq_false h]; exact ⟨most, rfl, h1, .inl rfl⟩
    have hbd2 : bd ≤ 100 := by rcases b1 with rfl | rfl <;> omega
    apply w_set
    · apply e_frz
      apply e_ixL
      · array_mem_dec
      · apply e_B
        · apply a_cons
          · array_mem_dec
          · exact a_nil
        · rfl
      · exact hbd
    obtain ⟨r2', d2, hr2, r20, r21, hd2⟩ := draw_q d1 (B + 1) hd1 (by omega) (bd : Nat) (by omega) (by omega)
    obtain ⟨r2, rfl⟩ : ∃ n : Nat, r2' = (n : Int) := ⟨r2'.toNat, by omega⟩
    obtain ⟨r3, d3, hr3, r30, r31, hd3⟩ := draw_q d2 (B + 1 + 1) hd2 (by omega) 8 (by omega) (by omega)
    bv_decide
    bv_decide
    bv_decide
    clear hr1 hr2 hr3
    refine w_forR (N := 1 + (r2 : Int)) (S := List (List Int) × Dk3) (fun i s => s.1.length = i ∧ NetOk s.1 ∧ BB s.2 (B + 3 + 100 * i)) (fun s => [.io (dk s.2), .dat true (.int (most : Nat)), .dat true (.int (great : Nat)), .dat true (.int (bd : Nat)), .dat true (.int (1 + (r2 : Int))), .dat true (.int r3), .own (.lst (s.1.map fun r => dT r)), .un, .un]) ([], d3) (i_range1 (e_var rfl) (cRng_of (by decide) (by decide) (by omega) (by omega))) rfl ⟨rfl, fun k r hr => by simp at hr, hd3.mono (by omega)⟩ ?_ ?_
    · rintro i ⟨net, d4⟩ hi ⟨hl, hN, hd4⟩
      dsimp only at hl hN hd4 ⊢
      refine ⟨_, rfl, ?_⟩
      obtain ⟨out, ⟨d5, row⟩, ec, hRo, hd5, hrow1, hrow2⟩ := n_compS (enc := PyData.int) (rng 0 (i : Nat)) (S := Dk3 × List Int) (fun j out s => out = s.2.map PyData.int ∧ BB s.1 (B + 3 + 100 * i + j) ∧ (∀ e ∈ s.2, 0 ≤ e ∧ e < (j : Int)) ∧ s.2.Pairwise (· < ·)) (fun s => [.io (dk s.1), .dat true (.int (most : Nat)), .dat true (.int (great : Nat)), .dat true (.int (bd : Nat)), .dat true (.int (1 + (r2 : Int))), .dat true (.int r3), .own (.lst (net.map fun r => dT r)), .dat true (.int (i : Nat)), .un]) (d4, [])
        (vs := [8]) (g := gN 8) (it := iRange1 (dVar 7)) (t := dTst (eX (xCallC u_qis_elder 0 [] (dAc (dVar 0) (dAc (dVar 5) (dAc (dVar 7) (dAc (dVar 8) dA0))))))) (e := dFrz (dVar 8)) (Γ := [.io (dk d4), .dat true (.int (most : Nat)), .dat true (.int (great : Nat)), .dat true (.int (bd : Nat)), .dat true (.int (1 + (r2 : Int))), .dat true (.int r3), .own (.lst (net.map fun r => dT r)), .dat true (.int (i : Nat)), .un]) (i_range1 (e_var rfl) (cRng_of (by decide) (by decide) (by omega) (by omega))) (by rw [rng_len]; omega) rfl ⟨rfl, hd4, by simp, by simp⟩ (by
          rintro j x out ⟨d5, row⟩ hx ⟨rfl, hd5, hw1, hw2⟩
          dsimp only at hd5 hw1 hw2 ⊢
          obtain ⟨rfl, hj⟩ := rng_at hx
          obtain ⟨b, d6, he, hd6⟩ := isElder_q d5 _ hd5 (by omega) r3 (i : Nat) (j : Nat) r30 r31
          refine ⟨_, rfl, b, _, t_tst (e_x (x_callE (a_cons (e_varI rfl) (a_cons (e_var rfl) (a_cons (e_var rfl) (a_cons (e_var rfl) a_nil)))) rfl rfl rfl rfl he rfl rfl) rfl), fun _ => ⟨_, _, (d6, row ++ [(j : Int)]), e_frz (e_var rfl), rfl, by rw [List.map_append]; rfl, hd6, ?_, ?_⟩, fun _ => ⟨(d6, row), rfl, rfl, hd6, fun e he => ?_, hw2⟩⟩
          · intro e he
            rcases List.mem_append.mp he with h | h
            · have := hw1 e h; omega
            · have : e = (j : Int) := by simpa using h
              omega
          · rw [List.pairwise_append]
            exact ⟨hw2, by simp, fun a ha b hb => by have : b = (j : Int) := by simpa using hb
                                                     have := (hw1 a ha).2
                                                     omega⟩
          · have := hw1 e he; omega)
      dsimp only at hRo hd5 hrow1 hrow2
      subst hRo
      rw [rng_len] at hd5 hrow1
      apply w_expr
      · apply e_ap
        · rfl
        · apply e_frz
          apply e_B
          · exact a_cons (e_ofN ec) a_nil
          · exact k_tup rfl
        · rfl
        · exact ltS_map (by omega)
      exact w_nil ⟨(net ++ [row], d5), by rw [List.map_append]; rfl, by simp; omega, netOk_snoc hN (fun e he => by have := hrow1 e he; omega) hrow2, hd5.mono (by simp; omega)⟩
    · rintro ⟨net, d4⟩ ⟨hl, hN, hd4⟩
      dsimp only at hl hN hd4 ⊢
      apply w_ret
      · exact e_B (a_cons (e_varO rfl) a_nil) (k_tup rfl)
      exact ⟨_, _, rfl, rfl, net, d4, rfl, hN, by omega, by rcases b1 with rfl | rfl; (left; omega); (right; omega), hd4.mono (by omega)⟩
  obtain ⟨z, e, net, d', rfl, h⟩ := key
  exact ⟨net, d', e, h⟩
theorem zip_or (xs ys : List Bool) : zipD (xs.map PyData.bool) (ys.map PyData.bool) = (xs.zip ys).map fun z => .tuple [.bool z.1, .bool z.2] := by
  unfold zipD
  rw [List.zip, List.map_zipWith, List.zipWith_map]
theorem reach_q (net : List (List Int)) (hN : NetOk net) (hn : net.length ≤ 1000) : ∃ rs, Reach net rs ∧ u_qreach [.d (dTT net)] = .val (.c (.lst (rs.map fun r => dB1 r)), [.un]) := by
  have key : Ok (u_qreach [.d (dTT net)]) fun z => ∃ rs, Reach net rs ∧ z = (.c (.lst (rs.map fun r => dB1 r)), [.un]) := by
    refine ok_run rfl ?_
    unfold b_qreach
    bv_decide
    refine w_forE (enc := fun r => dT r) net (S := List (List Bool)) (fun i rs => rs.length = i ∧ ∀ (k : Nat) (row : List Bool), rs[k]? = some row → RowOk net.length row (Anc net k)) (fun rs => [.dat false (dTT net), .own (.lst (rs.map fun r => dB1 r)), .un, .un, .un, .un, .un, .un, .un]) [] (i_enumT (e_var rfl)) rfl ⟨rfl, fun k row h => by simp at h⟩ ?_ ?_
    · rintro i row rs hrow ⟨hl, hrs⟩
      have hi : i < net.length := (List.getElem?_eq_some_iff.mp hrow).1
      refine ⟨_, rfl, ?_⟩
      have e0 : (rng 0 (net.length : Nat)).map (fun x => PyData.bool (decide (x = (i : Int)))) = ((rng 0 (net.length : Nat)).map fun x => decide (x = (i : Int))).map PyData.bool := by rw [List.map_map]; rfl
      apply w_set
      · apply e_ofN
        refine n_map (enc := PyData.int) (rng 0 (net.length : Nat)) (fun x => .bool (decide (x = (i : Int)))) (i_range1 (fr := true) (e_B (a_cons (e_var rfl) a_nil) (k_lenJ rfl)) (cRng_of (by decide) (by decide) (by omega) (by omega))) (by rw [rng_len]; omega) rfl fun x hx => ⟨_, rfl, rfl, ?_⟩
        exact e_frz (e_cmp (e_var rfl) (e_var rfl) k_eqI)
      rw [e0]
      have ok0 : RowOk net.length ((rng 0 (net.length : Nat)).map fun x => decide (x = (i : Int))) (fun j => j = i) := by
        refine ⟨by rw [List.length_map, rng_len]; omega, fun j b hj => ?_⟩
        obtain ⟨x, hx, rfl⟩ := gmap hj
        obtain ⟨rfl, _⟩ := rng_at hx
        rw [decide_eq_true_iff]
        omega
      refine w_forL (enc := PyData.int) row (S := List Bool) (fun j own => RowOk net.length own (fun m => m = i ∨ ∃ k : Nat, (k : Int) ∈ row.take j ∧ Anc net k m)) (fun own => [.dat false (dTT net), .own (.lst (rs.map fun r => dB1 r)), .dat false (.int (i : Nat)), .dat false (dT row), .dat true (dB1 own), .un, .un, .un, .un]) _ (i_seqT (e_var rfl)) rfl (ok0.iff fun j => by simp) ?_ ?_
      · rintro j x own hx hown
        have hx2 := (hN i row hrow).1 x (mem_at hx)
        obtain ⟨k, rfl⟩ : ∃ k : Nat, x = (k : Int) := ⟨x.toNat, by omega⟩
        obtain ⟨rk, hrk⟩ : ∃ rk, rs[k]? = some rk := ⟨_, List.getElem?_eq_getElem (by omega)⟩
        have hok := hrs k rk hrk
        refine ⟨_, rfl, ?_⟩
        have e1 : (own.zip rk).map (fun z => PyData.bool (z.1 || z.2)) = ((own.zip rk).map fun z => z.1 || z.2).map PyData.bool := by rw [List.map_map]; rfl
        apply w_set
        · apply e_ofN
          refine n_map (enc := fun z : Bool × Bool => .tuple [.bool z.1, .bool z.2]) (own.zip rk) (fun z => .bool (z.1 || z.2)) (fr := true) (Γ1 := [.dat false (dTT net), .own (.lst (rs.map fun r => dB1 r)), .dat false (.int (i : Nat)), .dat false (dT row), .dat true (dB1 own), .dat false (.int (k : Nat)), .un, .un, .un]) ?_ ?_ rfl fun z hz => ⟨_, rfl, rfl, ?_⟩
          · rw [← zip_or]
            exact i_zipX (f1 := true) (f2 := true) (e_var rfl) (e_ixS (e_varO rfl) (e_var rfl) rfl (at_nat hrk)) rfl rfl
          · have h1 := hown.1
            rw [List.length_zip]; omega
          · exact e_frz (e_or (e_var rfl) fun _ => e_var rfl)
        rw [e1]
        refine w_nil ⟨_, rfl, ?_, fun m b hm => ?_⟩
        · have h1 := hown.1
          have h2 := hok.1
          rw [List.length_map, List.length_zip]; omega
        · obtain ⟨z, hz, rfl⟩ := gmap hm
          obtain ⟨z1, z2⟩ := z
          rw [List.getElem?_zip_eq_some] at hz
          have q1 := hown.2 m z1 hz.1
          have q2 := hok.2 m z2 hz.2
          simp only [Bool.or_eq_true, q1, q2]
          rw [take_step hx]
          constructor
          · rintro ((h | ⟨p, h1, h2⟩) | h)
            · exact .inl h
            · exact .inr ⟨p, List.mem_append.mpr (.inl h1), h2⟩
            · exact .inr ⟨k, by simp, h⟩
          · rintro (h | ⟨p, h1, h2⟩)
            · exact .inl (.inl h)
            · rcases List.mem_append.mp h1 with h1 | h1
              · exact .inl (.inr ⟨p, h1, h2⟩)
              · have : p = k := by have : (p : Int) = k := by simpa using h1
                                   omega
                subst this; exact .inr h2
      · rintro own hown
        bv_decide
        · exact ltS_map (by omega)
        refine w_nil ⟨rs ++ [own], by rw [List.map_append]; rfl, by simp; omega, fun k r hk => ?_⟩
        by_cases hlt : k < rs.length
        · rw [List.getElem?_append_left hlt] at hk
          exact hrs k r hk
        · have hk2 : k < (rs ++ [own]).length := (List.getElem?_eq_some_iff.mp hk).1
          simp at hk2
          have : k = rs.length := by omega
          subst this
          simp at hk
          subst hk
          refine hown.iff fun m => ?_
          rw [List.take_length, hl, anc_iff hrow]
    · rintro rs ⟨hl, hrs⟩
      apply w_retO rfl
      exact ⟨_, _, rfl, rfl, rs, ⟨hl, hrs⟩, rfl⟩
  obtain ⟨z, e, rs, h, rfl⟩ := key
  exact ⟨rs, h, e⟩
end PD
set_option linter.all false
set_option maxRecDepth 100000
set_option maxHeartbeats 0
set_option autoImplicit false
namespace PD
open PySem L2
theorem x_cut0 {Γ Γ1 Γ2 : List Sl} {f : DF} {o : DO} {a : AV} {ds : List PyData} {n : Int} (h1 : f Γ = .val (a, Γ1)) (h2 : o Γ1 = .val (some n, Γ2)) (h3 : lsA Γ2 a = some ds) (hn : 0 ≤ n) : xCut f oNone o Γ = .val (.c (.lst (ds.take n.toNat)), Γ2) := by
  unfold xCut
  rw [h1, bind_val]
  show ((o Γ1).bind _) = _
  rw [h2, bind_val]
  unfold cutX
  simp only [h3]
  show R.val (Rs.c (Cl.lst (cutD ds none (some n))), Γ2) = _
  have : cutD ds none (some n) = ds.take n.toNat := by
    obtain ⟨k, rfl⟩ : ∃ k : Nat, n = (k : Int) := ⟨n.toNat, by omega⟩
    unfold cutD
    rw [HT.sIx_none, HT.sIx_nat, List.drop_zero, Nat.sub_zero, Int.toNat_natCast]
    by_cases h : k ≤ ds.length
    · rw [Nat.min_eq_left h]
    · rw [Nat.min_eq_right (by omega), List.take_length, List.take_of_length_le (by omega)]
  rw [this]
theorem o_some {Γ Γ1 : List Sl} {f : DF} {fr : Bool} {n : Int} (h : f Γ = .val (.d fr (.int n), Γ1)) : oSome f Γ = .val (some n, Γ1) := by unfold oSome; rw [h]; rfl
theorem barred_q (d : Dk3) (B : Nat) (hd : BB d B) (hB : B < 2 ^ 50) (many : Nat) (h2 : many ≤ 100) : ∃ (xs : List Int) (d' : Dk3), u_qbarred [.c (dk d), .d (.int (many : Nat))] = .val (.c (.lst (xs.map PyData.int)), [.io (dk d'), .un]) ∧ xs.length ≤ many + 2 ∧ (∀ x ∈ xs, 0 ≤ x ∧ x < (many : Int)) ∧ BB d' (B + 400) := by
  have key : Ok (u_qbarred [.c (dk d), .d (.int (many : Nat))]) fun z => ∃ (xs : List Int) (d' : Dk3), z = (.c (.lst (xs.map PyData.int)), [.io (dk d'), .un]) ∧ xs.length ≤ many + 2 ∧ (∀ x ∈ xs, 0 ≤ x ∧ x < (many : Int)) ∧ BB d' (B + 400) := by
    refine ok_run rfl ?_
    unfold b_qbarred
    obtain ⟨w, d1, hw, w0, w1, hd1⟩ := draw_q d B hd (by omega) 4 (by omega) (by omega)
    bv_decide
    clear hw
    apply_assumption
    · intro _
      nofun
      exact ⟨_, _, rfl, rfl, [], d1, rfl, by simp, by simp, hd1.mono (by omega)⟩
    · intro _
      bv_decide
      obtain ⟨m, hm, m0, m1⟩ : ∃ m : Int, atI [PyData.int 2, .int 2, .int 4, .int 8] w = some (.int m) ∧ 0 < m ∧ m < 2 ^ 64 := by
        rw [at4 w0 w1]
        split
        · exact ⟨2, rfl, by omega, by omega⟩
        · split
          · exact ⟨2, rfl, by omega, by omega⟩
          · split
            · exact ⟨4, rfl, by omega, by omega⟩
            · exact ⟨8, rfl, by omega, by omega⟩
      refine w_forR (S := List Int × Dk3) (fun i s => s.1.length ≤ i ∧ (∀ x ∈ s.1, 0 ≤ x ∧ x < (many : Int)) ∧ BB s.2 (B + 1 + 2 * i)) (fun s => [.io (dk s.2), .dat true (.int (many : Nat)), .dat true (.int w), .own (.lst (s.1.map PyData.int)), .un]) ([], d1) (i_range1 (e_var rfl) (cRng_of (by decide) (by decide) (by omega) (by omega))) rfl ⟨by simp, by simp, hd1⟩ ?_ ?_
      · rintro i ⟨fo, d2⟩ hi ⟨q1, q2, q3⟩
        dsimp only at q1 q2 q3 ⊢
        refine ⟨_, rfl, ?_⟩
        obtain ⟨t, d3, ht, t0, t1, hd3⟩ := draw_q d2 _ q3 (by omega) m m0 m1
        apply w_ifB
        · apply t_tst
          apply e_cmp
          · apply e_x
            · apply x_callE
              · apply a_cons
                · exact e_varI rfl
                · apply a_cons
                  · apply e_ixL
                    · array_mem_dec
                    · exact e_var rfl
                    · exact hm
                  · exact a_nil
              · rfl
              · rfl
              · rfl
              · rfl
              · exact ht
              · rfl
              · rfl
            · rfl
          · exact e_C
          · exact k_eqI
        · intro _
          obtain ⟨a, d4, ha, a0, a1, hd4⟩ := draw_q d3 _ hd3 (by omega) ((fo.length : Nat) + 1) (by omega) (by omega)
          and_intros
          apply w_expr
          · apply e_ins
            · rfl
            · apply a_cons
              · array_mem_dec
              · exact a_cons (e_frz (e_var rfl)) a_nil
            · rfl
            · unfold cIns
              have : (2 : Nat) ^ 20 ≤ sizeLine := by decide
              rw [decide_eq_true (by rw [List.length_map]; omega), decide_eq_true ⟨by omega, by omega⟩]
              rfl
          and_intros
          refine w_nil ⟨(insI fo a (i : Int), d4), ?_, ?_, ?_, hd4.mono (by omega)⟩
          · unfold insI
            rw [List.map_append, List.map_append, List.map_take, List.map_drop]
            rfl
          · show (insI fo a _).length ≤ _
            unfold insI
            simp
            omega
          · intro x hx'
            unfold insI at hx'
            rcases List.mem_append.mp hx' with h | h
            · rcases List.mem_append.mp h with h | h
              · exact q2 x (List.mem_of_mem_take h)
              · have : x = (i : Int) := by simpa using h
                omega
            · exact q2 x (List.mem_of_mem_drop h)
        · intro _
          and_intros
          exact w_nil ⟨(fo, d3), rfl, by dsimp only; omega, q2, hd3.mono (by omega)⟩
      · rintro ⟨fo, d2⟩ ⟨q1, q2, q3⟩
        dsimp only at q1 q2 q3 ⊢
        obtain ⟨t, d3, ht, t0, t1, hd3⟩ := draw_q d2 _ q3 (by omega) 3 (by omega) (by omega)
        apply w_retC
        · apply c_l
          apply n_cat
          · exact e_varO rfl
          · apply e_x
            · apply x_cut0
              · exact e_varO rfl
              · apply o_some
                array_mem_dec
              · rfl
              · exact t0
            · rfl
          · rfl
          · rfl
          · exact szB_of (by simp; omega)
        refine ⟨_, _, rfl, rfl, fo ++ fo.take t.toNat, d3, by rw [List.map_append, List.map_take], ?_, ?_, hd3.mono (by omega)⟩
        · simp; omega
        · intro x hx
          rcases List.mem_append.mp hx with h | h
          · exact q2 x h
          · exact q2 x (List.mem_of_mem_take h)
  obtain ⟨z, e, xs, d', rfl, h⟩ := key
  exact ⟨xs, d', e, h⟩
end PD
set_option linter.all false
set_option maxRecDepth 100000
set_option maxHeartbeats 0
set_option autoImplicit false
namespace PD
open PySem L2
end PD
set_option linter.all false
set_option maxRecDepth 100000
set_option autoImplicit false
namespace PD
open PySem L2
end PD
set_option linter.all false
set_option maxRecDepth 100000
set_option autoImplicit false
namespace PD
open PySem L2
inductive BarD : PyData → List Int → Prop
  | l (ns : List Int) : BarD (dL ns) ns
  | t (ns : List Int) : BarD (dT ns) ns
  | n : BarD .none []
theorem some_q {bd : PyData} {ns : List Int} (h : BarD bd ns) : u_p_some_of [.d bd] = .val (.c (.lst (ns.map PyData.int)), [.un]) := by
  refine ok_eq (ok_run rfl ?_)
  unfold b_p_some_of
  cases h with
  | l ns =>
    bv_normalize
    apply w_retC
    · apply c_l
      apply n_B
      · array_mem_dec
      · exact k_list rfl (by show (false || _) = true; rw [Bool.false_or]; exact flatI ns)
    exact ⟨_, _, rfl, rfl, rfl⟩
  | t ns =>
    bv_normalize
    apply w_retC
    · apply c_l
      apply n_B
      · array_mem_dec
      · exact k_list rfl (by show (false || _) = true; rw [Bool.false_or]; exact flatI ns)
    exact ⟨_, _, rfl, rfl, rfl⟩
  | n =>
    simp_all_arith
    apply w_retC
    · array_mem_dec
    exact ⟨_, _, rfl, rfl, rfl⟩
end PD
set_option linter.all false
set_option maxRecDepth 100000
set_option maxHeartbeats 0
set_option autoImplicit false
namespace PD
open PySem L2
theorem mask_q (K : Nat) (hK : K ≤ 1000) (tp : Bool) (ms : List Int) (hm : ∀ x ∈ ms, 0 ≤ x ∧ x < (K : Int)) : ∃ b, u_p_mask_of [.d (mD tp ms)] = .val (.d (.int b), [.un]) ∧ Msk K b (fun j => (j : Int) ∈ ms) := by
  have key : Ok (u_p_mask_of [.d (mD tp ms)]) fun z => ∃ b, z = (.d (.int b), [.un]) ∧ Msk K b (fun j => (j : Int) ∈ ms) := by
    refine ok_run rfl ?_
    unfold b_p_mask_of
    have e0 : initS 3 [Ar.d (mD tp ms)] = [.dat false (mD tp ms), .un, .un] := by
      unfold initS arS; simp only [List.map_cons, sc_mD]; rfl
    rw [e0]
    bv_decide
    refine w_forL (enc := PyData.int) ms (S := Int) (fun i b => Msk K b (fun j => (j : Int) ∈ ms.take i)) (fun b => [.dat false (mD tp ms), .dat true (.int b), .un]) 0 (seq_mD rfl) rfl ((msk_zero K).iff fun j => by simp) ?_ ?_
    · rintro i x b hx hb
      have hx2 := hm x (mem_at hx)
      obtain ⟨j, rfl⟩ : ∃ j : Nat, x = (j : Int) := ⟨x.toNat, by omega⟩
      refine ⟨_, rfl, ?_⟩
      apply w_set
      · exact e_I (e_var rfl) (e_I e_C (e_var rfl) (k_shl (cShl_of (by omega) (by omega)))) k_or
      refine w_nil ⟨_, rfl, (msk_or hb (msk_one (show j < K by omega))).iff fun m => ?_⟩
      rw [take_step hx, List.mem_append]
      have : m = j ↔ (m : Int) ∈ [(j : Int)] := by simp; omega
      rw [this]
    · rintro b hb
      rw [List.take_length] at hb
      nofun
      exact ⟨_, _, rfl, rfl, b, rfl, hb⟩
  obtain ⟨z, e, b, rfl, h⟩ := key
  exact ⟨b, e, h⟩
end PD
set_option linter.all false
set_option maxRecDepth 100000
set_option maxHeartbeats 0
set_option autoImplicit false
namespace PD
open PySem L2
end PD
set_option linter.all false
set_option maxRecDepth 100000
set_option maxHeartbeats 0
set_option autoImplicit false
namespace PD
open PySem L2
def addK (ks : List Int) (k : Int) : List Int := if k ∈ ks then ks else ks ++ [k]
theorem add_mem {ks : List Int} {k y : Int} : y ∈ addK ks k ↔ y ∈ ks ∨ y = k := by
  unfold addK
  split
  · rename_i h
    constructor
    · exact .inl
    · rintro (h2 | rfl)
      · exact h2
      · exact h
  · simp
theorem add_nd {ks : List Int} {k : Int} (h : ks.Nodup) : (addK ks k).Nodup := by
  unfold addK
  split
  · exact h
  · rename_i hk
    rw [List.nodup_append]
    exact ⟨h, by simp, fun a ha b hb => by
      have : b = k := by simpa using hb
      subst this
      exact fun z => hk (by rw [← z]; exact ha)⟩
theorem add_ne {ks : List Int} {k : Int} : addK ks k ≠ [] := fun e => by
  have : k ∈ addK ks k := add_mem.mpr (.inr rfl)
  rw [e] at this
  cases this
def Ow (n : Nat) (ks : List Int) (P : Nat → Prop) : Prop := ks.Nodup ∧ (∀ y ∈ ks, 0 ≤ y ∧ y < (n : Int)) ∧ ks ≠ [] ∧ ∀ j : Nat, (j : Int) ∈ ks ↔ P j
theorem Ow.iff {n : Nat} {ks : List Int} {P Q : Nat → Prop} (h : Ow n ks P) (e : ∀ j, P j ↔ Q j) : Ow n ks Q := ⟨h.1, h.2.1, h.2.2.1, fun j => (h.2.2.2 j).trans (e j)⟩
theorem Ow.add {n : Nat} {ks : List Int} {P : Nat → Prop} (h : Ow n ks P) {k : Nat} (hk : k < n) : Ow n (addK ks (k : Int)) (fun j => P j ∨ j = k) := by
  refine ⟨add_nd h.1, fun y hy => ?_, add_ne, fun j => ?_⟩
  · rcases add_mem.mp hy with h2 | rfl
    · exact h.2.1 y h2
    · omega
  · rw [add_mem, h.2.2.2]
    constructor
    · rintro (h | h)
      · exact .inl h
      · exact .inr (by omega)
    · rintro (h | h)
      · exact .inl h
      · exact .inr (by omega)
theorem Ow.len {n : Nat} {ks : List Int} {P : Nat → Prop} (h : Ow n ks P) : ks.length ≤ n := nodup_len n ks h.1 h.2.1
def ansL : List Str := ["good", "bad", "cannot"]
end PD
set_option linter.all false
set_option maxRecDepth 100000
set_option autoImplicit false
namespace PD
open PySem L2
end PD
set_option linter.all false
set_option maxRecDepth 100000
set_option autoImplicit false
namespace PD
open PySem L2
end PD
set_option linter.all false
set_option maxRecDepth 100000
set_option maxHeartbeats 0
set_option autoImplicit false
namespace PD
open PySem L2
abbrev Tr := Int × Str
def TrOk (n : Nat) (ts : List Tr) : Prop := ∀ q ∈ ts, 0 ≤ q.1 ∧ q.1 < (n : Int) ∧ q.2 ∈ ansL
theorem enumD_map {α : Type} (enc : α → PyData) (xs : List α) : enumD (xs.map enc) = xs.zipIdx.map fun z => .tuple [.int (z.2 : Nat), enc z.1] := by
  unfold enumD
  apply List.ext_getElem?
  intro i
  simp only [List.getElem?_mapIdx, List.getElem?_map, List.getElem?_zipIdx, Option.map_map]
  cases xs[i]? <;> simp
theorem rng_mem {n : Nat} {x : Int} : x ∈ rng 0 (n : Nat) ↔ 0 ≤ x ∧ x < (n : Int) := by
  constructor
  · intro h
    obtain ⟨i, hi⟩ := List.getElem?_of_mem h
    obtain ⟨rfl, h2⟩ := rng_at hi
    omega
  · rintro ⟨h1, h2⟩
    have hl : x.toNat < (rng 0 (n : Nat)).length := by rw [rng_len]; omega
    have := List.getElem?_eq_getElem hl
    have e := (rng_at this).1
    have hm := mem_at this
    rw [e] at hm
    have : ((x.toNat : Nat) : Int) = x := by omega
    rwa [this] at hm
section
variable (net : List (List Int)) (bs : List Int) (eb : uBitsOf [.d (dTT net)] = .val (.c (.lst (bs.map PyData.int)), [.un])) (hbl : bs.length = net.length) (hn : net.length ≤ 1000) (tp : Bool) (ts : List Tr) (hts : TrOk net.length ts) (hl : ts.length < 2 ^ 20) (lies : Int)
end
end PD
set_option linter.all false
set_option maxRecDepth 100000
set_option maxHeartbeats 0
set_option autoImplicit false
namespace PD
open PySem L2
section
variable (net : List (List Int)) (bs : List Int) (eb : uBitsOf [.d (dTT net)] = .val (.c (.lst (bs.map PyData.int)), [.un])) (hbl : bs.length = net.length) (hn : net.length ≤ 1000) (tp : Bool) (ts : List Tr) (hts : TrOk net.length ts) (hl : ts.length < 2 ^ 20) (lies : Int)
include eb hbl hn hts hl in
end
end PD
set_option linter.all false
set_option maxRecDepth 100000
set_option autoImplicit false
namespace PD
open PySem L2
end PD
set_option linter.all false
set_option maxRecDepth 100000
set_option maxHeartbeats 0
set_option autoImplicit false
namespace PD
open PySem L2
inductive Pl where
  | lf (ms : List Int)
  | tr (m : Int) (b g : Pl)
def dpt : Pl → Nat
  | .lf _ => 0
  | .tr _ b g => 1 + max (dpt b) (dpt g)
theorem k_allT {Γ : List Sl} {fr : Bool} {α : Type} (xs : List α) : kAll Γ [.d fr (.list (xs.map fun _ => PyData.bool true))] = .val (.d true (.bool true)) := by
  have e : xs.map (fun _ => PyData.bool true) = (xs.map fun _ => true).map PyData.bool := by rw [List.map_map]; rfl
  have b : ∀ bs : List Bool, boolsOf (bs.map PyData.bool) = some bs := fun bs => by
    induction bs with
    | nil => rfl
    | cons x r ih => simp [boolsOf, ih]
  unfold kAll
  show ((R.ofO (boolsOf _)).bind _) = _
  rw [e, b]
  show R.val (AV.d true (.bool ((xs.map fun _ => true).all id))) = _
  congr 3
  simp
end PD
set_option linter.all false
set_option maxRecDepth 100000
set_option maxHeartbeats 0
set_option autoImplicit false
namespace PD
open PySem L2
end PD
set_option linter.all false
set_option maxRecDepth 100000
set_option maxHeartbeats 0
set_option autoImplicit false
namespace PD
open PySem L2
def room (lies : Int) : List (Int × Int) → Int
  | [] => 0
  | z :: st => (lies + 1 - z.2) + room lies st
end PD
set_option linter.all false
set_option maxRecDepth 100000
set_option maxHeartbeats 0
set_option autoImplicit false
namespace PD
open PySem L2
end PD
set_option linter.all false
set_option maxRecDepth 100000
set_option autoImplicit false
namespace PD
open PySem L2
end PD
set_option linter.all false
set_option maxRecDepth 100000
set_option maxHeartbeats 0
set_option autoImplicit false
namespace PD
open PySem L2
def prL (w : List Int) (m : Int) : Int := (w[m.toNat]?).getD 0
def lvs : Pl → List (List Str × List Int)
  | .lf ms => [([], ms)]
  | .tr _ b g => (lvs b).map (fun z => (("bad" : Str) :: z.1, z.2)) ++ (lvs g).map fun z => (("good" : Str) :: z.1, z.2)
end PD
set_option linter.all false
set_option maxRecDepth 100000
set_option maxHeartbeats 0
set_option autoImplicit false
namespace PDW
open PySem L2 PD
structure NKey {κ : Type} (kD : κ → PyData) : Prop where
  ok : ∀ k, nkOk (kD k) = true
  inj : ∀ a b, nkD (kD a) = nkD (kD b) → a = b
  eq : ∀ a, eqN (kD a) (kD a) = true
section
variable {κ ω : Type} {kD : κ → PyData} {vD : ω → PyData}
abbrev nD (kD : κ → PyData) (vD : ω → PyData) (l : List (κ × ω)) : List (PyData × PyData) := l.map fun z => (kD z.1, vD z.2)
theorem decN_nD (E : NKey kD) (l : List (κ × ω)) : decN (encN (nD kD vD l)) = some (nD kD vD l) := by
  unfold encN decN
  show decL ((nD kD vD l).flatMap fun z => [(z.1, z.2), (.none, z.1)]) = _
  induction l with
  | nil => rfl
  | cons z r ih =>
    show decL ((kD z.1, vD z.2) :: (.none, kD z.1) :: (nD kD vD r).flatMap fun z => [(z.1, z.2), (.none, z.1)]) = _
    rw [decL, if_pos (E.eq z.1), ih]
    rfl
variable {f g : DF} {Γ Γ1 Γ2 : List Sl} {fr fr2 : Bool} {m : Nat}
theorem e_frzKO {t : Dk} {kvs : List (PyData × PyData)} (h1 : f Γ = .val (.s m, Γ1)) (h2 : Γ1[m]? = some (.own (.dic t kvs))) : dFrzK f Γ = .val (.d true (.dict kvs), Γ1.set m (.dat true (.dict kvs))) := by
  unfold dFrzK; rw [h1, bind_val]; unfold frzK; simp only [h2]
end
end PDW
set_option linter.all false
set_option maxRecDepth 100000
set_option autoImplicit false
namespace PD
open PySem L2
section
variable {Γ Γ1 Γ2 Γ3 : List Sl} {f g h : DF} {b r s : DS} {P : Fw → List Sl → Prop} {i j m : Nat} {ds es : List PyData} {fr : Bool} {a a2 : AV}
end
end PD
set_option linter.all false
set_option maxRecDepth 100000
set_option maxHeartbeats 0
set_option autoImplicit false
namespace PDW
open PySem L2 PD
open PySem.W (dataLt dataLe alike)
structure TKey {κ : Type} [DecidableEq κ] (kD : κ → PyData) : Prop where
  eq : ∀ a b, eqK (kD a) (kD b) = decide (a = b)
  ok : ∀ a, kOk .t (kD a) = true
  tp : ∀ a, ∃ xs, kD a = .tuple xs
  fl : ∀ a, flat (kD a) = true
abbrev strT : List Str → PyData := fun a => .tuple (a.map .str)
section
variable {κ ω : Type} [DecidableEq κ] {kD : κ → PyData} {vD : ω → PyData} {Γ Γ1 Γ2 : List Sl} {f g : DF} {fr fr2 : Bool} {m : Nat}
end
end PDW
set_option linter.all false
set_option maxRecDepth 100000
set_option autoImplicit false
namespace PD
open PySem L2
end PD
set_option linter.all false
set_option maxRecDepth 100000
set_option autoImplicit false
namespace PD
open PySem L2
end PD
set_option linter.all false
set_option maxRecDepth 100000
set_option autoImplicit false
namespace PD
open PySem L2
end PD
set_option linter.all false
set_option maxRecDepth 100000
set_option maxHeartbeats 0
set_option autoImplicit false
namespace PDW
open PySem L2 PD
open PySem.W (dataLt dataLe alike)
def bad? (b : Bool) : Str := if b then "bad" else "good"
def ans (bs : List Int) (ts : List Int) (m : Int) : List Str := ts.map fun t => bad? (inb (bs[t.toNat]?.getD 0) m)
def InR (n : Nat) (ts : List Int) : Prop := ∀ t ∈ ts, 0 ≤ t ∧ t < (n : Int)
def adK {κ : Type} [DecidableEq κ] (ks : List κ) (a : κ) : List κ := if a ∈ ks then ks else ks ++ [a]
def kyS {κ : Type} [DecidableEq κ] (f : Int → κ) (ms : List Int) : List κ := ms.foldl (fun ks m => adK ks (f m)) []
theorem adK_mem {κ : Type} [DecidableEq κ] {ks : List κ} {a x : κ} : x ∈ adK ks a ↔ x ∈ ks ∨ x = a := by
  unfold adK
  split
  · constructor
    · exact .inl
    · rintro (h | rfl)
      · exact h
      · assumption
  · simp
theorem adK_nd {κ : Type} [DecidableEq κ] {ks : List κ} {a : κ} (h : ks.Nodup) : (adK ks a).Nodup := by
  unfold adK
  split
  · exact h
  · rename_i hn
    rw [List.nodup_append]
    refine ⟨h, by simp, ?_⟩
    intro x hx y hy e
    have hy : y = a := by simpa using hy
    rw [e, hy] at hx
    exact hn hx
theorem kyS_fold {κ : Type} [DecidableEq κ] (f : Int → κ) : ∀ (ms : List Int) (ks : List κ), ks.Nodup → (ms.foldl (fun ks m => adK ks (f m)) ks).Nodup ∧ ∀ x, x ∈ ms.foldl (fun ks m => adK ks (f m)) ks ↔ x ∈ ks ∨ ∃ m ∈ ms, f m = x
  | [], ks, h => ⟨h, fun x => by simp⟩
  | m :: ms, ks, h => by
    obtain ⟨i1, i2⟩ := kyS_fold f ms (adK ks (f m)) (adK_nd h)
    refine ⟨i1, fun x => ?_⟩
    rw [List.foldl_cons, i2 x, adK_mem]
    constructor
    · rintro ((h | rfl) | ⟨y, hy, e⟩)
      · exact .inl h
      · exact .inr ⟨m, by simp, rfl⟩
      · exact .inr ⟨y, by simp [hy], e⟩
    · rintro (h | ⟨y, hy, e⟩)
      · exact .inl (.inl h)
      · rcases List.mem_cons.mp hy with rfl | hy
        · exact .inl (.inr e.symm)
        · exact .inr ⟨y, hy, e⟩
theorem kyS_mem {κ : Type} [DecidableEq κ] {f : Int → κ} {ms : List Int} {x : κ} : x ∈ kyS f ms ↔ ∃ m ∈ ms, f m = x := by
  have := (kyS_fold f ms [] List.nodup_nil).2 x
  unfold kyS
  rw [this]; simp
def grpOf {κ : Type} [DecidableEq κ] (f : Int → κ) (ms : List Int) (a : κ) : List Int := ms.filter fun m => decide (f m = a)
abbrev mulL (f : Int → List Str) (ms : List Int) : List (PyData × List PyData) := (kyS f ms).map fun a => (strT a, (grpOf f ms a).map .int)
def ordA (ks : List (List Str)) : List (List Str) := ks.mergeSort (dataLe false strT)
theorem ordA_perm (ks : List (List Str)) : (ordA ks).Perm ks := List.mergeSort_perm _ _
def spl (bs ts ms : List Int) : List (List Str × List Int) := (ordA (kyS (ans bs ts) ms)).map fun a => (a, grpOf (ans bs ts) ms a)
end PDW
set_option linter.all false
set_option maxRecDepth 100000
set_option maxHeartbeats 0
set_option autoImplicit false
namespace PDW
open PySem L2 PD
open PySem.W (dataLt dataLe alike keyToksAll)
open PyProof.Rows (lexLt itemOrd)
theorem grp_sub {κ : Type} [DecidableEq κ] {f : Int → κ} {ms : List Int} {a : κ} : (grpOf f ms a).Sublist ms := List.filter_sublist
theorem spl_mem {bs ts ms : List Int} {z : List Str × List Int} (h : z ∈ spl bs ts ms) : (∃ m ∈ ms, ans bs ts m = z.1) ∧ z.2 = grpOf (ans bs ts) ms z.1 := by
  obtain ⟨a, ha, rfl⟩ := List.mem_map.mp h
  exact ⟨kyS_mem.mp ((ordA_perm _).mem_iff.mp ha), rfl⟩
end PDW
set_option linter.all false
set_option maxRecDepth 100000
set_option maxHeartbeats 0
set_option autoImplicit false
namespace PDW
open PySem L2 PD
open PySem.W (dataLt dataLe alike)
def lastI (xs : List Int) : Int := xs.getLast?.getD 0
def more (some : List Int) (one : List Int) : List (List Int) := (some.filter fun m => decide (one = []) || decide (lastI one < m)).map fun m => one ++ [m]
def rowN (some : List Int) : Nat → List (List Int)
  | 0 => [[]]
  | n + 1 => (rowN some n).flatMap (more some)
def chs (some : List Int) : Nat → List (List Int)
  | 0 => []
  | n + 1 => chs some n ++ rowN some (n + 1)
theorem rowN_mem {some : List Int} : ∀ {n : Nat} {t : List Int}, t ∈ rowN some n → (∀ x ∈ t, x ∈ some) ∧ t.length = n
  | 0, t, h => by
    have : t = [] := by simpa [rowN] using h
    subst this
    exact ⟨fun x h => absurd h List.not_mem_nil, rfl⟩
  | n + 1, t, h => by
    obtain ⟨one, h1, h2⟩ := List.mem_flatMap.mp h
    obtain ⟨m, h3, rfl⟩ := List.mem_map.mp h2
    obtain ⟨i1, i2⟩ := rowN_mem h1
    refine ⟨fun x hx => ?_, by rw [List.length_append, i2]; rfl⟩
    rcases List.mem_append.mp hx with h | h
    · exact i1 x h
    · have : x = m := by simpa using h
      rw [this]; exact (List.mem_filter.mp h3).1
theorem chs_mem {some : List Int} : ∀ {w : Nat} {t : List Int}, t ∈ chs some w → (∀ x ∈ t, x ∈ some) ∧ t ≠ [] ∧ t.length ≤ w
  | 0, t, h => absurd h List.not_mem_nil
  | w + 1, t, h => by
    rcases List.mem_append.mp h with h | h
    · obtain ⟨h1, h2, h3⟩ := chs_mem h
      exact ⟨h1, h2, by omega⟩
    · obtain ⟨h1, h2⟩ := rowN_mem h
      exact ⟨h1, fun e => (by rw [e] at h2; cases h2), by omega⟩
theorem chs_nil (w : Nat) : chs [] w = [] := by
  cases e : chs [] w with
  | nil => rfl
  | cons t r =>
    obtain ⟨h1, h2, _⟩ := chs_mem (show t ∈ chs [] w by rw [e]; simp)
    cases t with
    | nil => exact absurd rfl h2
    | cons x s => exact absurd (h1 x (by simp)) List.not_mem_nil
def hasI (b : Int) (ms : List Int) (z : Bool) : Bool := ms.any fun m => inb b m == z
def usr (n : Nat) (bs shut : List Int) (ms : List Int) : List Int := (rng 0 (n : Nat)).filter fun k => !decide (k ∈ shut) && (hasI (bs[k.toNat]?.getD 0) ms true && hasI (bs[k.toNat]?.getD 0) ms false)
theorem hasI_iff {b : Int} {ms : List Int} {z : Bool} : hasI b ms z = true ↔ ∃ m ∈ ms, inb b m = z := by
  unfold hasI
  rw [List.any_eq_true]
  constructor
  · rintro ⟨m, h1, h2⟩; exact ⟨m, h1, by simpa using h2⟩
  · rintro ⟨m, h1, h2⟩; exact ⟨m, h1, by simpa using h2⟩
theorem usr_mono {n : Nat} {bs shut ms ks : List Int} (h : ∀ x ∈ ks, x ∈ ms) : (usr n bs shut ks).Sublist (usr n bs shut ms) := by
  have : usr n bs shut ks = (usr n bs shut ms).filter fun k => hasI (bs[k.toNat]?.getD 0) ks true && hasI (bs[k.toNat]?.getD 0) ks false := by
    unfold usr
    rw [List.filter_filter]
    apply List.filter_congr
    intro k _
    rw [Bool.eq_iff_iff]
    simp only [Bool.and_eq_true, Bool.not_eq_true', decide_eq_false_iff_not, hasI_iff]
    constructor
    · rintro ⟨a, ⟨m, h1, h2⟩, ⟨m', h3, h4⟩⟩
      exact ⟨⟨⟨m, h1, h2⟩, ⟨m', h3, h4⟩⟩, a, ⟨m, h m h1, h2⟩, ⟨m', h m' h3, h4⟩⟩
    · rintro ⟨q, a, _⟩
      exact ⟨a, q⟩
  rw [this]
  exact List.filter_sublist
end PDW
set_option linter.all false
set_option maxRecDepth 100000
set_option maxHeartbeats 0
set_option autoImplicit false
namespace PDW
open PySem L2 PD
open PySem.W (dataLt dataLe alike)
abbrev Rv := Int × Option (List Int)
structure Wd where
  n : Nat
  bs : List Int
  shut : List Int
  w : Nat
def Wd.ch (W : Wd) (ms : List Int) : List (List Int) := chs (usr W.n W.bs W.shut ms) W.w
def stepB (best : Rv) (x : Int) (t : List Int) : Rv := if (best.2.isNone || decide (1 + x < best.1)) = true then (1 + x, some t) else best
def rv (W : Wd) : Nat → List Int → Rv
  | 0, _ => (0, none)
  | F + 1, ms => (W.ch ms).foldl (fun best t => stepB best ((spl W.bs t ms).foldl (fun x z => max2 x (rv W F z.2).1) 0) t) (0, none)
theorem part_sub {bs ts ms : List Int} {z : List Str × List Int} (h : z ∈ spl bs ts ms) : z.2.Sublist ms := by
  obtain ⟨_, e⟩ := spl_mem h
  rw [e]; exact grp_sub
def Wd.v (W : Wd) (ms : List Int) : Rv := rv W ms.length ms
def Wd.Ch (W : Wd) (ms k : List Int) : Prop := ∃ t ∈ W.ch ms, ∃ z ∈ spl W.bs t ms, z.2 = k
inductive Wd.Rch (W : Wd) : List Int → List Int → Prop
  | rf (ms) : Wd.Rch W ms ms
  | st {ms k l} : Wd.Rch W ms k → W.Ch k l → Wd.Rch W ms l
theorem Rch.sub {W : Wd} {ms k : List Int} (h : W.Rch ms k) : k.Sublist ms := by
  induction h with
  | rf => exact List.Sublist.refl _
  | st _ h ih =>
    obtain ⟨t, _, z, hz, rfl⟩ := h
    exact (part_sub hz).trans ih
abbrev RB := List (List Int × Rv)
abbrev ksR (D : RB) : List (List Int) := D.map (·.1)
structure DOk (W : Wd) (row : List Int) (D : RB) : Prop where
  nd : (ksR D).Nodup
  vl : ∀ z ∈ D, z.2 = W.v z.1
  cl : ∀ k ∈ ksR D, ∀ l, W.Ch k l → l ∈ ksR D
  rc : ∀ k ∈ ksR D, W.Rch row k
structure WOk (net : List (List Int)) (W : Wd) (row : List Int) : Prop where
  nl : net.length ≤ 1000
  en : W.n = net.length
  bk : BitsOk net W.bs
  ri : InR net.length row
  rl : row.length ≤ 50
  wl : W.w ≤ 3
  us : (usr W.n W.bs W.shut row).length ≤ 10
  fin : ∀ L : List (List Int), L.Nodup → (∀ k ∈ L, W.Rch row k) → L.length ≤ 1000
end PDW
set_option linter.all false
set_option maxRecDepth 100000
set_option maxHeartbeats 0
set_option autoImplicit false
namespace PDW
open PySem L2 PD
open PySem.W (dataLt dataLe alike)
def subs : List Int → List (List Int)
  | [] => [[]]
  | x :: r => subs r ++ (subs r).map fun s => x :: s
theorem subs_len : ∀ r : List Int, (subs r).length = 2 ^ r.length
  | [] => rfl
  | x :: r => by rw [subs, List.length_append, List.length_map, subs_len r, List.length_cons, Nat.pow_succ]; omega
theorem subs_mem {k r : List Int} (h : k.Sublist r) : k ∈ subs r := by
  induction h with
  | slnil => simp [subs]
  | cons a _ ih => exact List.mem_append.mpr (.inl ih)
  | cons_cons a _ ih => exact List.mem_append.mpr (.inr (List.mem_map.mpr ⟨_, ih, rfl⟩))
theorem ch_none {W : Wd} {ms : List Int} (h : usr W.n W.bs W.shut ms = []) : W.ch ms = [] := by
  unfold Wd.ch; rw [h, chs_nil]
theorem rch_one {W : Wd} {row k : List Int} (h : usr W.n W.bs W.shut row = []) (hr : W.Rch row k) : k = row := by
  induction hr with
  | rf => rfl
  | st _ hc ih =>
    subst ih
    obtain ⟨t, ht, _⟩ := hc
    rw [ch_none h] at ht
    exact absurd ht List.not_mem_nil
theorem fin_of {W : Wd} {row : List Int} (h : usr W.n W.bs W.shut row = [] ∨ row.length ≤ 6) : ∀ L : List (List Int), L.Nodup → (∀ k ∈ L, W.Rch row k) → L.length ≤ 1000 := by
  intro L nd hL
  rcases h with h | h
  · have := nd.length_le_of_subset (l₂ := [row]) (fun k hk => by rw [rch_one h (hL k hk)]; simp)
    simp at this
    omega
  · have := nd.length_le_of_subset (l₂ := subs row) (fun k hk => subs_mem (Rch.sub (hL k hk)))
    rw [subs_len] at this
    have : 2 ^ row.length ≤ 2 ^ 6 := Nat.pow_le_pow_right (by decide) h
    omega
structure Hd (net : List (List Int)) (W : Wd) (row hs : List Int) (bd : PyData) : Prop where
  nl : net.length ≤ 1000
  en : W.n = net.length
  bk : BitsOk net W.bs
  eb : uBitsOf [.d (dTT net)] = .val (.c (.lst (W.bs.map PyData.int)), [.un])
  hh : InR net.length hs
  hr : row.Pairwise (· < ·)
  he : ∀ x, x ∈ row ↔ x ∈ hs
  rl : row.length ≤ 50
  wl : W.w ≤ 3
  bd : ∃ sh, BarD bd sh ∧ ∀ x, x ∈ sh ↔ x ∈ W.shut
theorem Hd.ri {net : List (List Int)} {W : Wd} {row hs : List Int} {bd : PyData} (H : Hd net W row hs bd) : InR net.length row := fun t h => H.hh t ((H.he t).mp h)
theorem Hd.ok {net : List (List Int)} {W : Wd} {row hs : List Int} {bd : PyData} (H : Hd net W row hs bd) (h1 : usr W.n W.bs W.shut row = [] ∨ row.length ≤ 6) (h2 : (usr W.n W.bs W.shut row).length ≤ 10) : WOk net W row :=
  ⟨H.nl, H.en, H.bk, H.ri, H.rl, H.wl, h2, fin_of h1⟩
end PDW
set_option linter.all false
set_option maxRecDepth 100000
set_option maxHeartbeats 0
set_option autoImplicit false
namespace PDW
open PySem L2 PD
section
variable {Γ Γ1 Γ2 : List Sl} {f : DF} {b : DS} {P : Fw → List Sl → Prop} {i j : Nat} {fr : Bool}
theorem w_sinkM {l : List (PyData × List PyData)} (hi : Γ[i]? = some (.own (.mul .n l))) (h : PD.W b (Γ.set i (.own (.dic .n (encN (mulD l))))) P) : PD.W (bSinkN i b) Γ P := by
  unfold PD.W bSinkN
  rw [hi]; exact h
theorem e_sdaN {io io' : Bool} {l l' : List (PyData × List PyData)} {kd x : PyData} (h0 : mulAtN Γ i = some (io', l')) (h1 : f Γ = .val (.d true kd, Γ1)) (h2 : mulAtN Γ1 i = some (io, l)) (h3 : keepAt Γ1 j = some x) (h4 : nkOk kd = true) (h5 : l.length < 2 ^ 20) (h6 : ∀ y ∈ l, y.2.length < 2 ^ 20) :
    dSdaN i f j Γ = .val (.d true .none, Γ1.set i (mkS io (.mul .n (mulAddN l kd x)))) := by
  unfold dSdaN
  rw [h0, ofO_some, bind_val, h1, bind_val]
  simp only [h2, h3]
  show (R.req (nkOk kd && (decide (l.length < sizeLine) && l.all fun y => decide (y.2.length < sizeLine)))).bind _ = _
  have e5 : decide (l.length < sizeLine) = true := decide_eq_true (Nat.lt_of_lt_of_le h5 (by decide))
  have e6 : (l.all fun y => decide (y.2.length < sizeLine)) = true := List.all_eq_true.mpr fun y hy => decide_eq_true (Nat.lt_of_lt_of_le (h6 y hy) (by decide))
  rw [h4, e5, e6]; rfl
theorem i_valN {κ ω : Type} {kD : κ → PyData} {vD : ω → PyData} (E : NKey kD) {l : List (κ × ω)} (h1 : f Γ = .val (.d fr (.dict (encN (nD kD vD l))), Γ1)) : iValN f Γ = .val (((l.map (·.2)).map vD, fr), Γ1) := by
  unfold iValN
  rw [h1, bind_val]
  show (R.ofO ((decN (encN (nD kD vD l))).map _)).bind _ = _
  rw [decN_nD E, Option.map_some, ofO_some, bind_val, List.map_map, List.map_map]
  rfl
end
abbrev rwK (l : List Bool) : PyData := .tuple (l.map .bool)
theorem nkDs_b : ∀ l : List Bool, nkDs (l.map PyData.bool) = some (l.map fun b => NestedKey.num (if b then 1 else 0))
  | [] => by rw [List.map_nil, nkDs]; rfl
  | b :: r => by
    rw [List.map_cons, nkDs, nkD, nkDs_b r]; rfl
theorem nkD_b (l : List Bool) : nkD (rwK l) = some (.tup (l.map fun b => NestedKey.num (if b then 1 else 0))) := by
  rw [rwK, nkD, nkDs_b]; rfl
theorem nkd_depB : ∀ l : List Bool, NestedKey.depthAll (l.map fun b => NestedKey.num (if b then 1 else 0)) = 0
  | [] => rfl
  | b :: r => by
    rw [List.map_cons, NestedKey.depthAll, nkd_depB r]
    simp [NestedKey.depth]
theorem eqN_b : ∀ l : List Bool, eqNs (l.map PyData.bool) (l.map PyData.bool) = true
  | [] => by rw [List.map_nil, eqNs]
  | b :: r => by
    rw [List.map_cons, eqNs, eqN_b r, Bool.and_true]
    simp [eqN]
theorem nk_bs : NKey rwK where
  ok l := by
    unfold nkOk
    show (match nkD (rwK l) with | some kk => decide (kk.depth ≤ 8) | none => false) = true
    rw [nkD_b]
    apply decide_eq_true
    rw [NestedKey.depth, nkd_depB]
    omega
  inj a b h := by
    rw [nkD_b, nkD_b] at h
    have h := NestedKey.tup.inj (Option.some.inj h)
    have key : ∀ a b : List Bool, a.map (fun b => NestedKey.num (if b then 1 else 0)) = b.map (fun b => NestedKey.num (if b then 1 else 0)) → a = b := by
      intro a
      induction a with
      | nil => intro b h; cases b with
        | nil => rfl
        | cons y r => cases h
      | cons x r ih =>
        intro b h
        cases b with
        | nil => cases h
        | cons y s =>
          have h1 := (List.cons.inj h).1
          have h2 := ih s (List.cons.inj h).2
          rw [h2]
          cases x <;> cases y <;> first | rfl | (simp at h1)
    exact key a b h
  eq l := by rw [eqN]; exact eqN_b l
theorem w_normL {b : DS} {Γ Γ' : List Sl} {P : Fw → List Sl → Prop} (e : Γ = Γ') (h : PD.W b Γ' P) : PD.W b Γ P := e ▸ h
abbrev Gp := List Bool × List Int
def addG (f : Int → List Bool) : List Gp → Int → List Gp
  | [], m => [(f m, [m])]
  | z :: l, m => if z.1 = f m then (z.1, z.2 ++ [m]) :: l else z :: addG f l m
def gps (f : Int → List Bool) (ms : List Int) : List Gp := ms.foldl (addG f) []
abbrev encG : Gp → PyData × List PyData := fun z => (rwK z.1, z.2.map .int)
theorem mulAdd_enc (f : Int → List Bool) (m : Int) : ∀ s : List Gp, mulAddN (s.map encG) (rwK (f m)) (.int m) = (addG f s m).map encG
  | [] => rfl
  | z :: l => by
    rw [List.map_cons, addG, mulAddN]
    by_cases e : z.1 = f m
    · rw [if_pos e, if_pos (show nkD (encG z).1 = nkD (rwK (f m)) by show nkD (rwK z.1) = _; rw [e])]
      show (rwK z.1, z.2.map PyData.int ++ [.int m]) :: l.map encG = (rwK z.1, (z.2 ++ [m]).map .int) :: l.map encG
      rw [List.map_append]; rfl
    · rw [if_neg e, if_neg (show ¬ nkD (encG z).1 = nkD (rwK (f m)) from fun h => e (nk_bs.inj _ _ h)), mulAdd_enc f m l]; rfl
structure GOk (f : Int → List Bool) (ms : List Int) (s : List Gp) : Prop where
  nd : (s.map (·.1)).Nodup
  el : ∀ z ∈ s, z.2 = ms.filter (fun x => decide (f x = z.1)) ∧ z.2 ≠ []
  all : ∀ x ∈ ms, f x ∈ s.map (·.1)
theorem addG_keys (f : Int → List Bool) (m : Int) : ∀ s : List Gp, (addG f s m).map (·.1) = if f m ∈ s.map (·.1) then s.map (·.1) else s.map (·.1) ++ [f m]
  | [] => rfl
  | z :: l => by
    rw [addG]
    by_cases e : z.1 = f m
    · rw [if_pos e, if_pos (by simp [e])]; rfl
    · rw [if_neg e, List.map_cons, addG_keys f m l]
      by_cases h : f m ∈ l.map (·.1)
      · rw [if_pos h, if_pos (by rw [List.map_cons]; exact List.mem_cons_of_mem _ h)]; rfl
      · rw [if_neg h, if_neg (by
          rw [List.map_cons]
          intro q
          rcases List.mem_cons.mp q with q | q
          · exact e q.symm
          · exact h q)]; rfl
theorem addG_mem (f : Int → List Bool) (m : Int) : ∀ {s : List Gp}, (s.map (·.1)).Nodup → ∀ z ∈ addG f s m, (z ∈ s ∧ z.1 ≠ f m) ∨ (∃ r, (f m, r) ∈ s ∧ z = (f m, r ++ [m])) ∨ (f m ∉ s.map (·.1) ∧ z = (f m, [m]))
  | [], _, z, hz => .inr (.inr ⟨by simp, by simpa [addG] using hz⟩)
  | y :: l, nd, z, hz => by
    obtain ⟨n1, n2⟩ := List.nodup_cons.mp (show (y.1 :: l.map (·.1)).Nodup from nd)
    rw [addG] at hz
    by_cases e : y.1 = f m
    · rw [if_pos e] at hz
      rcases List.mem_cons.mp hz with rfl | hz
      · exact .inr (.inl ⟨y.2, by rw [← e]; simp, by rw [e]⟩)
      · refine .inl ⟨List.mem_cons_of_mem _ hz, fun q => n1 ?_⟩
        rw [e, ← q]; exact List.mem_map_of_mem hz
    · rw [if_neg e] at hz
      rcases List.mem_cons.mp hz with rfl | hz
      · exact .inl ⟨by simp, e⟩
      · rcases addG_mem f m n2 z hz with ⟨h1, h2⟩ | ⟨r, h1, h2⟩ | ⟨h1, h2⟩
        · exact .inl ⟨List.mem_cons_of_mem _ h1, h2⟩
        · exact .inr (.inl ⟨r, List.mem_cons_of_mem _ h1, h2⟩)
        · refine .inr (.inr ⟨fun q => ?_, h2⟩)
          rw [List.map_cons] at q
          rcases List.mem_cons.mp q with q | q
          · exact e q.symm
          · exact h1 q
theorem GOk.add {f : Int → List Bool} {ms : List Int} {s : List Gp} (h : GOk f ms s) (m : Int) : GOk f (ms ++ [m]) (addG f s m) where
  nd := by
    rw [addG_keys]
    split
    · exact h.nd
    · rename_i q
      refine List.nodup_append.mpr ⟨h.nd, by simp, fun a ha b hb e => q ?_⟩
      have : b = f m := by simpa using hb
      rw [← this, ← e]; exact ha
  el z hz := by
    rw [List.filter_append]
    rcases addG_mem f m h.nd z hz with ⟨h1, h2⟩ | ⟨r, h1, rfl⟩ | ⟨h1, rfl⟩
    · obtain ⟨a, b⟩ := h.el z h1
      refine ⟨?_, b⟩
      rw [← a, List.filter_cons, decide_eq_false (Ne.symm h2), if_neg (by simp), List.filter_nil, List.append_nil]
    · obtain ⟨a, b⟩ := h.el _ h1
      refine ⟨?_, by simp⟩
      dsimp only at a ⊢
      rw [← a, List.filter_cons, decide_eq_true rfl, if_pos rfl, List.filter_nil]
    · refine ⟨?_, by simp⟩
      dsimp only
      have : ms.filter (fun x => decide (f x = f m)) = [] := by
        rw [List.filter_eq_nil_iff]
        intro x hx q
        have q := of_decide_eq_true q
        exact h1 (by rw [← q]; exact h.all x hx)
      rw [this, List.filter_cons, decide_eq_true rfl, if_pos rfl, List.filter_nil]; rfl
  all x hx := by
    rw [addG_keys]
    rcases List.mem_append.mp hx with hx | hx
    · have := h.all x hx
      split
      · exact this
      · exact List.mem_append_left _ this
    · have : x = m := by simpa using hx
      subst this
      split
      · assumption
      · simp
theorem gps_ok (f : Int → List Bool) (ms : List Int) : GOk f ms (gps f ms) := by
  have key : ∀ (r p : List Int) (s : List Gp), GOk f p s → GOk f (p ++ r) (r.foldl (addG f) s) := by
    intro r
    induction r with
    | nil => intro p s h; rw [List.append_nil]; exact h
    | cons m r ih =>
      intro p s h
      rw [List.foldl_cons, show p ++ m :: r = (p ++ [m]) ++ r by simp]
      exact ih _ _ (h.add m)
  exact key ms [] [] ⟨List.nodup_nil, (fun _ h => nomatch h), (fun _ h => nomatch h)⟩
theorem gps_has {f : Int → List Bool} {ms : List Int} {x : Int} (h : x ∈ ms) : (f x, ms.filter fun y => decide (f y = f x)) ∈ gps f ms := by
  have G := gps_ok f ms
  obtain ⟨z, hz, e⟩ := List.mem_map.mp (G.all x h)
  have := (G.el z hz).1
  rw [e] at this
  rw [← this, ← e]; exact hz
def trB (bs sh : List Int) : List Int := (bs.zipIdx.filter fun z => !decide (((z.2 : Nat) : Int) ∈ sh)).map (·.1)
def sgB (bs sh : List Int) (m : Int) : List Bool := (trB bs sh).map fun b => inb b m
def clsI (bs sh row : List Int) : List (List Int) := (gps (sgB bs sh) row).map (·.2)
theorem classes_q (net : List (List Int)) (hN : NetOk net) (hn : net.length ≤ 1000) (bs : List Int) (hB : BitsOk net bs) (eb : uBitsOf [.d (dTT net)] = .val (.c (.lst (bs.map PyData.int)), [.un])) (tp : Bool) (hs row : List Int) (hm : InR net.length hs) (hr : row.Pairwise (· < ·)) (he : ∀ x, x ∈ row ↔ x ∈ hs) {bd : PyData} {sh : List Int} (hbd : BarD bd sh) :
    u_p_classes [.d (dTT net), .d (mD tp hs), .d bd] = .val (.c (.lst ((clsI bs sh row).map fun r => dT r)), [.un, .un, .un]) := by
  have hbl := hB.1
  obtain ⟨mk, em, hmk⟩ := mask_q net.length hn tp hs hm
  have h0 : 0 ≤ mk := hmk.nn
  obtain ⟨M, rfl⟩ : ∃ M : Nat, mk = (M : Nat) := ⟨mk.toNat, by omega⟩
  have e1 : uMakesIn [.d (.int (M : Nat))] = .val (.d (dT (bitsFrom 0 (M + 1) M)), [.un]) := makesIn_q net.length M hn (by have := hmk.lt; simpa using this)
  have em2 : bitsFrom 0 (M + 1) M = row := by
    refine rise_ext bitsFrom_rise.1 hr fun x => ?_
    rw [bitsFrom_mem (by omega), he]
    constructor
    · rintro ⟨j, h1, h2⟩
      have := (hmk.bit j).mp (by simpa using h1)
      rw [h2]; simpa using this
    · intro h
      have := (hm x h).1
      obtain ⟨j, rfl⟩ : ∃ j : Nat, x = (j : Int) := ⟨x.toNat, by omega⟩
      exact ⟨j, by have := (hmk.bit j).mpr h; simpa using this, by simp⟩
  rw [em2] at e1
  have hrl : row.length ≤ 1000 := by
    have nd : row.Nodup := hr.imp fun h e => by omega
    have h1 := nd.length_le_of_subset (l₂ := rng 0 (net.length : Nat)) fun x hx => rng_mem.mpr (hm x ((he x).mp hx))
    rw [rng_len] at h1
    omega
  have htl : (trB bs sh).length ≤ 1000 := by
    unfold trB
    rw [List.length_map]
    have := List.length_filter_le (fun z : Int × Nat => !decide (((z.2 : Nat) : Int) ∈ sh)) bs.zipIdx
    rw [List.length_zipIdx] at this
    omega
  let pre : Sl → Sl → Sl → Sl → Sl → Sl → List Sl := fun q3 q4 q5 q6 q7 q8 => [.dat false (dTT net), .dat false (mD tp hs), .dat (scD bd) bd, q3, q4, q5, q6, q7, q8]
  refine ok_eq (ok_run rfl ?_)
  unfold b_p_classes
  have e0 : initS 9 [Ar.d (dTT net), Ar.d (mD tp hs), Ar.d bd] = pre .un .un .un .un .un .un := by cases tp <;> rfl
  rw [e0]
  apply w_set
  · exact e_xc (x_call (a_cons (e_var rfl) a_nil) rfl (some_q hbd))
  have ec : nComp [6, 7] (gT2 (gN 6) (gN 7)) (iEnum (eX (xCall uBitsOf [] (dAc (dVar 0) dA0)))) (dTst (dCmp kNinB (dVar 6) (dVar 3))) (dFrz (dVar 7)) (pre (.dat true (dL sh)) .un .un .un .un .un) = .val ((trB bs sh).map PyData.int, pre (.dat true (dL sh)) .un .un .un .un .un) := by
    have := n_comp (enc := fun z : Int × Nat => .tuple [.int (z.2 : Nat), .int z.1]) bs.zipIdx (fun z => !decide (((z.2 : Nat) : Int) ∈ sh)) (fun z => .int z.1) (vs := [6, 7]) (g := gT2 (gN 6) (gN 7)) (it := iEnum (eX (xCall uBitsOf [] (dAc (dVar 0) dA0)))) (t := dTst (dCmp kNinB (dVar 6) (dVar 3))) (e := dFrz (dVar 7)) (Γ := pre (.dat true (dL sh)) .un .un .un .un .un) (Γ1 := pre (.dat true (dL sh)) .un .un .un .un .un) (Γ0 := pre (.dat true (dL sh)) .un .un .un .un .un) (fr := true)
      (by
        rw [i_enumL (ds := bs.map PyData.int) (e_xc (x_call (a_cons (e_var rfl) a_nil) rfl eb)), enumD_map]) (by rw [List.length_zipIdx]; omega) rfl fun z hz => ⟨_, rfl, rfl, t_tst (e_cmp (e_var rfl) (e_var rfl) (k_ninI ((z.2 : Nat) : Int) sh)), fun _ => e_frz (e_var rfl)⟩
    rw [this]
    unfold trB
    rw [List.map_map]; rfl
  apply w_set
  · exact e_ofN ec
  apply w_setX
  · exact x_c (show nMulN0 _ = .val (.mul .n (([] : List Gp).map encG), _) from rfl)
  refine w_normL (Γ' := pre (.dat true (dL sh)) (.dat true (dL (trB bs sh))) (.own (.mul .n (([] : List Gp).map encG))) .un .un .un) rfl ?_
  refine w_forL (enc := PyData.int) row (S := List Gp) (fun i s => s = gps (sgB bs sh) (row.take i)) (fun s => pre (.dat true (dL sh)) (.dat true (dL (trB bs sh))) (.own (.mul .n (s.map encG))) .un .un .un) [] (fr := true) (Γ1 := pre (.dat true (dL sh)) (.dat true (dL (trB bs sh))) (.own (.mul .n (([] : List Gp).map encG))) .un .un .un) (i_seqT (e_x (x_call (a_cons (e_x (x_call (a_cons (e_var rfl) a_nil) rfl em) rfl) a_nil) rfl e1) rfl)) rfl rfl ?_ ?_
  · rintro i m s hmi rfl
    have hmm := List.mem_of_getElem? hmi
    have hm0 := hm m ((he m).mp hmm)
    have G := gps_ok (sgB bs sh) (row.take i)
    have hsz : ∀ z ∈ gps (sgB bs sh) (row.take i), z.2.length ≤ 1000 := fun z hz => by
      rw [(G.el z hz).1]
      have := List.length_filter_le (fun x => decide (sgB bs sh x = z.1)) (row.take i)
      have h2 : (row.take i).length ≤ row.length := List.length_take_le' _ _
      omega
    have hgl : (gps (sgB bs sh) (row.take i)).length ≤ 1000 := by
      have h1 : ((gps (sgB bs sh) (row.take i)).map (·.1)).length ≤ ((row.take i).map (sgB bs sh)).length := G.nd.length_le_of_subset fun k hk => by
        obtain ⟨z, hz, rfl⟩ := List.mem_map.mp hk
        obtain ⟨a, b⟩ := G.el z hz
        obtain ⟨x, hx⟩ := List.exists_mem_of_ne_nil _ b
        rw [a] at hx
        obtain ⟨x1, x2⟩ := List.mem_filter.mp hx
        rw [← of_decide_eq_true x2]
        exact List.mem_map_of_mem x1
      rw [List.length_map, List.length_map] at h1
      have h2 : (row.take i).length ≤ row.length := List.length_take_le' _ _
      omega
    refine ⟨_, rfl, ?_⟩
    apply w_expr
    · refine e_sdaN (Γ1 := pre (.dat true (dL sh)) (.dat true (dL (trB bs sh))) (.own (.mul .n ((gps (sgB bs sh) (row.take i)).map encG))) (.dat true (.int m)) .un .un) (io := false) (l := (gps (sgB bs sh) (row.take i)).map encG) (kd := rwK (sgB bs sh m)) (x := .int m) rfl ?_ rfl rfl (nk_bs.ok _) (by rw [List.length_map]; omega) (fun y hy => ?_)
      · refine e_B (a_cons (e_ofN (n_map (enc := PyData.int) (trB bs sh) (fun b => .bool (inb b m)) (i_seqL (e_var rfl)) (by omega) rfl fun b hb => ⟨_, rfl, rfl, e_frz (e_x (x_call (a_cons (e_var rfl) (a_cons (e_var rfl) a_nil)) rfl (isIn_q b m hm0.1)) rfl)⟩)) a_nil) ?_
        rw [k_tup rfl]
        show R.val (AV.d true (.tuple ((trB bs sh).map fun b => PyData.bool (inb b m)))) = .val (.d true (.tuple (((trB bs sh).map fun b => inb b m).map .bool)))
        rw [List.map_map]; rfl
      · obtain ⟨z, hz, rfl⟩ := List.mem_map.mp hy
        have := hsz z hz
        show (z.2.map PyData.int).length < _
        rw [List.length_map]; omega
    refine w_nil ⟨gps (sgB bs sh) (row.take (i + 1)), ?_, rfl⟩
    rw [mulAdd_enc]
    have : gps (sgB bs sh) (row.take (i + 1)) = addG (sgB bs sh) (gps (sgB bs sh) (row.take i)) m := by
      unfold gps
      rw [take_step hmi, List.foldl_append]; rfl
    rw [this]; rfl
  rintro s rfl
  rw [List.take_length]
  apply w_sinkM
  · rfl
  have emd : mulD ((gps (sgB bs sh) row).map encG) = nD rwK (fun r => PyData.list (r.map .int)) (gps (sgB bs sh) row) := by
    unfold mulD
    rw [List.map_map]; rfl
  rw [emd]
  have G := gps_ok (sgB bs sh) row
  have hgl : (gps (sgB bs sh) row).length ≤ 1000 := by
    have h1 : ((gps (sgB bs sh) row).map (·.1)).length ≤ (row.map (sgB bs sh)).length := G.nd.length_le_of_subset fun k hk => by
      obtain ⟨z, hz, rfl⟩ := List.mem_map.mp hk
      obtain ⟨a, b⟩ := G.el z hz
      obtain ⟨x, hx⟩ := List.exists_mem_of_ne_nil _ b
      rw [a] at hx
      obtain ⟨x1, x2⟩ := List.mem_filter.mp hx
      rw [← of_decide_eq_true x2]
      exact List.mem_map_of_mem x1
    rw [List.length_map, List.length_map] at h1
    omega
  apply w_retC
  · refine c_l (n_map (enc := fun r => PyData.list (r.map .int)) (clsI bs sh row) (fun r => dT r) (fr := true) (Γ1 := pre (.dat true (dL sh)) (.dat true (dL (trB bs sh))) (.dat true (.dict (encN (nD rwK (fun r => PyData.list (r.map .int)) (gps (sgB bs sh) row))))) .un .un .un) ?_ (by unfold clsI; rw [List.length_map]; omega) rfl fun r hr => ⟨_, rfl, rfl, e_frz (e_B (a_cons (e_var rfl) a_nil) (k_tup rfl))⟩)
    exact i_valN nk_bs (e_frzKO (e_varO rfl) rfl)
  exact ⟨_, _, rfl, rfl, rfl⟩
end PDW
set_option linter.all false
set_option maxRecDepth 100000
set_option autoImplicit false
namespace PD
open PySem L2
end PD
set_option linter.all false
set_option maxRecDepth 100000
set_option autoImplicit false
namespace PD
open PySem L2
end PD
set_option linter.all false
set_option maxRecDepth 100000
set_option maxHeartbeats 0
set_option autoImplicit false
namespace PD
open PySem L2 PDW
open PySem.W (dataLt dataLe alike)
end PD
set_option linter.all false
set_option maxRecDepth 100000
set_option maxHeartbeats 0
set_option autoImplicit false
namespace PD
open PySem L2 PDW
section
variable {Γ Γ1 Γ2 : List Sl} {f g fe : DF} {k : DA} {cl : List (Str × List Str)} {c n : Str} {fr fr2 : Bool} {m : List Ar → R (Rs × List Sl)} {ms : List Bool} {dds : List PyData} {as : List AV} {ars : List Ar} {r : Rs} {Z : List Sl} {b : DS} {P : Fw → List Sl → Prop} {i : Nat}
end
end PD
set_option linter.all false
set_option maxRecDepth 100000
set_option maxHeartbeats 0
set_option autoImplicit false
namespace PDW
open PySem L2 PD
def mo : List Int → Int
  | [] => 0
  | x :: r => Builtin.bitOr ((1 : Int) * 2 ^ x.toNat) (mo r)
def gs (b : Int) (r : List Int) : List Int := r.filter fun m => inb b m
def ng (b : Int) (r : List Int) : List Int := r.filter fun m => !inb b m
theorem InR.sub {n : Nat} {r s : List Int} (h : InR n r) (hs : s.Sublist r) : InR n s := fun x hx => h x (hs.subset hx)
theorem gs_sub (b : Int) (r : List Int) : (gs b r).Sublist r := List.filter_sublist
theorem ng_sub (b : Int) (r : List Int) : (ng b r).Sublist r := List.filter_sublist
structure SW where
  n : Nat
  bs : List Int
  ws : List Int
  shut : List Int
  pr : Option (List Int)
  tw : Bool := false
  tq : Bool := false
def SW.c (W : SW) (t : Int) : Int := match W.pr with
  | none => 1
  | some l => prL l t
def SW.wt (W : SW) (r : List Int) : Int := (r.map (prL W.ws)).sum
def SW.us (W : SW) (r : List Int) : List Int := usr W.n W.bs W.shut r
def SW.b (W : SW) (t : Int) : Int := W.bs[t.toNat]?.getD 0
def SW.bd (W : SW) (t : Int) (r : List Int) : List Int := gs (W.b t) r
def SW.gd (W : SW) (t : Int) (r : List Int) : List Int := ng (W.b t) r
abbrev Sv := Int × Option Int
def stepS (best : Sv) (x : Int) (t : Int) : Sv := if (best.2.isNone || decide (x < best.1)) = true then (x, some t) else best
def sf (W : SW) : Nat → List Int → Sv
  | 0, _ => (0, none)
  | F + 1, r => (W.us r).foldl (fun best t => stepS best (W.c t * W.wt r + (sf W F (W.bd t r)).1 + (sf W F (W.gd t r)).1) t) (0, none)
def SW.v (W : SW) (r : List Int) : Sv := sf W (r.length + 1) r
def SW.x (W : SW) (t : Int) (r : List Int) : Int := W.c t * W.wt r + (W.v (W.bd t r)).1 + (W.v (W.gd t r)).1
inductive SW.R (W : SW) : List Int → List Int → Prop
  | rf (r) : SW.R W r r
  | bd {r k t} : SW.R W r k → t ∈ W.us k → SW.R W r (W.bd t k)
  | gd {r k t} : SW.R W r k → t ∈ W.us k → SW.R W r (W.gd t k)
theorem SR.sub {W : SW} {r k : List Int} (h : W.R r k) : k.Sublist r := by
  induction h with
  | rf => exact List.Sublist.refl _
  | bd _ _ ih => exact (gs_sub _ _).trans ih
  | gd _ _ ih => exact (ng_sub _ _).trans ih
structure SOk (net : List (List Int)) (W : SW) (row : List Int) : Prop where
  nl : net.length ≤ 1000
  en : W.n = net.length
  bk : BitsOk net W.bs
  wl : W.ws.length = net.length
  wb : ∀ w ∈ W.ws, w.natAbs < 2 ^ 200
  pl : ∀ l, W.pr = some l → l.length = net.length ∧ ∀ p ∈ l, p.natAbs < 2 ^ 200
  ri : InR net.length row
  rr : row.Pairwise (· < ·)
def SFn (W : SW) (row : List Int) : Prop := W.us row = [] ∨ row.length ≤ 10
theorem SFn.sub {W : SW} {row k : List Int} (O : SFn W row) (h : k.Sublist row) : SFn W k :=
  Or.imp (fun e => by
    have := usr_mono (n := W.n) (bs := W.bs) (shut := W.shut) fun x hx => h.subset hx
    unfold SW.us at e ⊢
    rw [e] at this
    exact List.sublist_nil.mp this) (fun e => Nat.le_trans h.length_le e) O
theorem SOk.sub {net : List (List Int)} {W : SW} {row k : List Int} (O : SOk net W row) (h : k.Sublist row) : SOk net W k :=
  ⟨O.nl, O.en, O.bk, O.wl, O.wb, O.pl, O.ri.sub h, O.rr.sublist h⟩
theorem SOk.len {net : List (List Int)} {W : SW} {row : List Int} (O : SOk net W row) : row.length ≤ net.length := by
  refine rise_len (S := fun j => (j : Int) ∈ row) ⟨O.rr, fun y => ?_⟩ fun j hj => by have := O.ri _ hj; omega
  constructor
  · intro h
    have := O.ri y h
    obtain ⟨j, rfl⟩ : ∃ j : Nat, y = (j : Int) := ⟨y.toNat, by omega⟩
    exact ⟨j, h, rfl⟩
  · rintro ⟨j, h, rfl⟩; exact h
def SW.tr (W : SW) : List Int := (rng 0 (W.n : Nat)).filter fun k => !decide (k ∈ W.shut)
section
variable {net : List (List Int)} {W : SW} {row : List Int} {kvs : List (PyData × PyData)} {Γ Γ1 : List Sl} {f : DF} {fr : Bool} {d : PyData} {n : Str}
end
end PDW
set_option linter.all false
set_option maxRecDepth 100000
set_option maxHeartbeats 0
set_option autoImplicit false
namespace PDW
open PySem L2 PD
structure RI (W : SW) (row : List Int) (M : Option (List Int)) (K Q : List (List Int)) : Prop where
  nd : K.Nodup
  fs : row ∈ K
  wk : ∀ k ∈ Q, k ∈ K
  rc : ∀ k ∈ K, W.R row k
  cl : ∀ k ∈ K, k ∈ Q ∨ M = some k ∨ ∀ t ∈ W.us k, W.bd t k ∈ K ∧ W.gd t k ∈ K
  qn : Q.length ≤ K.length
theorem RI.add {W : SW} {row : List Int} {M : Option (List Int)} {K Q : List (List Int)} (h : RI W row M K Q) {r : List Int} (hr : W.R row r) (hn : r ∉ K) : RI W row M (K ++ [r]) (Q ++ [r]) where
  nd := by
    refine List.nodup_append.mpr ⟨h.nd, by simp, fun a ha b hb => ?_⟩
    have e : b = r := by simpa using hb
    exact fun z => hn (by rw [← e, ← z]; exact ha)
  fs := List.mem_append_left _ h.fs
  wk k hk := by
    rcases List.mem_append.mp hk with q | q
    · exact List.mem_append_left _ (h.wk k q)
    · exact List.mem_append_right _ q
  rc k hk := by
    rcases List.mem_append.mp hk with q | q
    · exact h.rc k q
    · have : k = r := by simpa using q
      rw [this]; exact hr
  cl k hk := by
    rcases List.mem_append.mp hk with q | q
    · rcases h.cl k q with z | z | z
      · exact .inl (List.mem_append_left _ z)
      · exact .inr (.inl z)
      · exact .inr (.inr fun t ht => ⟨List.mem_append_left _ (z t ht).1, List.mem_append_left _ (z t ht).2⟩)
    · exact .inl (List.mem_append_right _ q)
  qn := by
    have := h.qn
    simp; omega
end PDW
set_option linter.all false
set_option maxRecDepth 100000
set_option maxHeartbeats 0
set_option autoImplicit false
namespace PDW
open PySem L2 PD
abbrev Wy := Int × List (Int × Int) × List (Int × Int)
end PDW
set_option linter.all false
set_option maxRecDepth 100000
set_option maxHeartbeats 0
set_option autoImplicit false
namespace PDW
open PySem L2 PD
abbrev Sd := List (Int × Int)
def nx (ws : List Wy) : List Sd := ws.flatMap fun w => [w.2.1, w.2.2]
structure Cls (F : Sd → List Wy) (L : List Sd) (U : Nat) : Prop where
  cl : ∀ s ∈ L, ∀ t ∈ nx (F s), t ∈ L
  up : ∀ s ∈ L, (F s).length ≤ U
structure TrI (F : Sd → List Wy) (L : List Sd) (st : Sd) (D : List (Sd × List Wy)) (wl : List Sd) : Prop where
  wm : ∀ s ∈ wl, s ∈ L
  kl : ∀ s ∈ D.map (·.1), s ∈ L
  nd : (D.map (·.1)).Nodup
  val : ∀ z ∈ D, z.2 = F z.1
  cl : ∀ s ∈ D.map (·.1), ∀ t ∈ nx (F s), t ∈ D.map (·.1) ∨ t ∈ wl
  st : st ∈ D.map (·.1) ∨ st ∈ wl
def mm (L : List Sd) (U : Nat) (D : List (Sd × List Wy)) (wl : List Sd) : Nat := (2 * U + 1) * (L.filter fun s => !decide (s ∈ D.map (·.1))).length + wl.length
theorem TrI.old {F : Sd → List Wy} {L : List Sd} {st : Sd} {D : List (Sd × List Wy)} {wl : List Sd} {h : Sd} (I : TrI F L st D (wl ++ [h])) (hh : h ∈ D.map (·.1)) : TrI F L st D wl where
  wm s hs := I.wm s (List.mem_append.mpr (.inl hs))
  kl := I.kl
  nd := I.nd
  val := I.val
  cl s hs t ht := by
    rcases I.cl s hs t ht with h1 | h1
    · exact .inl h1
    · rcases List.mem_append.mp h1 with h1 | h1
      · exact .inr h1
      · rw [List.mem_singleton.mp h1]; exact .inl hh
  st := by
    rcases I.st with h1 | h1
    · exact .inl h1
    · rcases List.mem_append.mp h1 with h1 | h1
      · exact .inr h1
      · rw [List.mem_singleton.mp h1]; exact .inl hh
theorem TrI.new {F : Sd → List Wy} {L : List Sd} {U : Nat} (C : Cls F L U) {st : Sd} {D : List (Sd × List Wy)} {wl : List Sd} {h : Sd} (I : TrI F L st D (wl ++ [h])) (hh : h ∉ D.map (·.1)) : TrI F L st (D ++ [(h, F h)]) (wl ++ nx (F h)) := by
  have hL : h ∈ L := I.wm h (by simp)
  refine ⟨fun s hs => ?_, fun s hs => ?_, ?_, fun z hz => ?_, fun s hs t ht => ?_, ?_⟩
  · rcases List.mem_append.mp hs with hs | hs
    · exact I.wm s (List.mem_append.mpr (.inl hs))
    · exact C.cl h hL s hs
  · rw [List.map_append] at hs
    rcases List.mem_append.mp hs with hs | hs
    · exact I.kl s hs
    · have : s = h := by simpa using hs
      subst this; exact hL
  · rw [List.map_append, List.nodup_append]
    refine ⟨I.nd, by simp, ?_⟩
    intro a ha b hb e
    have hb : b = h := by simpa using hb
    subst hb
    rw [e] at ha
    exact hh ha
  · rcases List.mem_append.mp hz with hz | hz
    · exact I.val z hz
    · rw [List.mem_singleton.mp hz]
  · rw [List.map_append] at hs ⊢
    rcases List.mem_append.mp hs with hs | hs
    · rcases I.cl s hs t ht with h1 | h1
      · exact .inl (List.mem_append.mpr (.inl h1))
      · rcases List.mem_append.mp h1 with h1 | h1
        · exact .inr (List.mem_append.mpr (.inl h1))
        · rw [List.mem_singleton.mp h1]; exact .inl (by simp)
    · have : s = h := by simpa using hs
      subst this
      exact .inr (List.mem_append.mpr (.inr ht))
  · rw [List.map_append]
    rcases I.st with h1 | h1
    · exact .inl (List.mem_append.mpr (.inl h1))
    · rcases List.mem_append.mp h1 with h1 | h1
      · exact .inr (List.mem_append.mpr (.inl h1))
      · rw [List.mem_singleton.mp h1]; exact .inl (by simp)
end PDW
set_option linter.all false
set_option maxRecDepth 100000
set_option maxHeartbeats 0
set_option autoImplicit false
namespace PDW
open PySem L2 PD
end PDW
set_option linter.all false
set_option maxRecDepth 100000
set_option maxHeartbeats 0
set_option autoImplicit false
namespace PDW
open PySem L2 PD
section
variable {net : List (List Int)} {W : SW} {row : List Int} {kvs : List (PyData × PyData)} {l : List (Int × PyData)}
end
end PDW
set_option linter.all false
set_option maxRecDepth 100000
set_option maxHeartbeats 0
set_option autoImplicit false
namespace PDW
open PySem L2 PD
section
variable {Γ Γ1 Γ2 : List Sl} {f fe : DF} {cl : List (Str × List Str)} {c n : Str} {fr : Bool} {b : DS} {P : Fw → List Sl → Prop} {i : Nat} {rr : DK}
end
structure SH (net : List (List Int)) (W : SW) (row hs : List Int) (bd : PyData) : Prop where
  ok : SOk net W row
  eb : uBitsOf [.d (dTT net)] = .val (.c (.lst (W.bs.map PyData.int)), [.un])
  hh : InR net.length hs
  he : ∀ x, x ∈ row ↔ x ∈ hs
  bd : BarD bd W.shut
section
variable {net : List (List Int)} {W : SW} {row hs : List Int} {bd : PyData}
end
end PDW
set_option linter.all false
set_option maxRecDepth 100000
set_option maxHeartbeats 0
set_option autoImplicit false
namespace PDW
open PySem L2 PD
inductive PV (W : SW) : List Int → Pl → Prop
  | lf {r} : W.us r = [] → PV W r (.lf r)
  | tr {r t b g} : t ∈ W.us r → PV W (W.bd t r) b → PV W (W.gd t r) g → PV W r (.tr t b g)
theorem reach_at {net : List (List Int)} {bs : List Int} {rs : List (List Bool)} (hR : Reach net rs) (hB : BitsOk net bs) {t j : Nat} (ht : t < net.length) (hj : j < net.length) : ∃ row, rs[t]? = some row ∧ row[j]? = some (inb (bs[t]?.getD 0) (j : Int)) := by
  obtain ⟨row, hrow⟩ : ∃ row, rs[t]? = some row := ⟨_, List.getElem?_eq_getElem (by rw [hR.1]; exact ht)⟩
  obtain ⟨b, hb⟩ : ∃ b, bs[t]? = some b := ⟨_, List.getElem?_eq_getElem (by rw [hB.1]; exact ht)⟩
  have hro := hR.2 t row hrow
  obtain ⟨z, hz, hz2⟩ := hro.at hj
  refine ⟨row, hrow, ?_⟩
  rw [hz, hb]
  have h2 := inb_anc hB hb j
  show some z = some (inb b (j : Int))
  cases z <;> cases hi : inb b (j : Int)
  · rfl
  · exact absurd (hz2.mpr (h2.mp hi)) (by simp)
  · exact absurd (h2.mpr (hz2.mp rfl)) (by rw [hi]; simp)
  · rfl
section
variable {net : List (List Int)} {W : SW} {row hs : List Int} {rs : List (List Bool)}
structure LW (net : List (List Int)) (W : SW) (rs : List (List Bool)) (row hs : List Int) : Prop where
  ok : SOk net W row
  re : Reach net rs
  hh : InR net.length hs
  he : ∀ x, x ∈ row ↔ x ∈ hs
  hl : hs.length ≤ 63
theorem LW.has (H : LW net W rs row hs) (t : Int) (z : Bool) : hasI (W.b t) hs z = hasI (W.b t) row z := by
  rw [Bool.eq_iff_iff, hasI_iff, hasI_iff]
  constructor <;> (rintro ⟨m, h1, h2⟩; exact ⟨m, by first | exact (H.he m).mp h1 | exact (H.he m).mpr h1, h2⟩)
end
end PDW
set_option linter.all false
set_option maxRecDepth 100000
set_option maxHeartbeats 0
set_option autoImplicit false
namespace PDW
open PySem L2 PD
theorem trB_mem {bs sh : List Int} {b : Int} : b ∈ trB bs sh ↔ ∃ k : Nat, bs[k]? = some b ∧ (k : Int) ∉ sh := by
  unfold trB
  rw [List.mem_map]
  constructor
  · rintro ⟨z, hz, rfl⟩
    obtain ⟨h1, h2⟩ := List.mem_filter.mp hz
    have := List.mem_zipIdx_iff_getElem?.mp h1
    exact ⟨z.2, this, by simpa using h2⟩
  · rintro ⟨k, h1, h2⟩
    exact ⟨(b, k), List.mem_filter.mpr ⟨List.mem_zipIdx_iff_getElem?.mpr h1, by simpa using h2⟩, rfl⟩
theorem sgB_eq {bs sh : List Int} {x y : Int} : sgB bs sh x = sgB bs sh y ↔ ∀ (k : Nat) (b : Int), bs[k]? = some b → (k : Int) ∉ sh → inb b x = inb b y := by
  unfold sgB
  rw [List.map_inj_left]
  constructor
  · intro h k b hb hs
    exact h b (trB_mem.mpr ⟨k, hb, hs⟩)
  · intro h b hb
    obtain ⟨k, h1, h2⟩ := trB_mem.mp hb
    exact h k b h1 h2
theorem alike_l {net : List (List Int)} {bs : List Int} {rs : List (List Bool)} (hn : net.length ≤ 1000) (hR : Reach net rs) (hB : BitsOk net bs) (sh : List Int) {x y : Int} (hx : 0 ≤ x ∧ x < (net.length : Int)) (hy : 0 ≤ y ∧ y < (net.length : Int)) :
    u_qalike_k25 [.d (.list (rs.map fun r => dB1 r)), .d (.int x), .d (.int y), .d (dL sh)] = .val (.d (.bool (decide (sgB bs sh x = sgB bs sh y))), [.un, .un, .un, .un]) := by
  obtain ⟨x, rfl⟩ : ∃ j : Nat, x = (j : Int) := ⟨x.toNat, by omega⟩
  obtain ⟨y, rfl⟩ : ∃ j : Nat, y = (j : Int) := ⟨y.toNat, by omega⟩
  have hrl := hR.1
  have hbl := hB.1
  refine ok_eq (ok_run rfl ?_)
  unfold b_qalike_k25
  refine w_forE (enc := fun r => dB1 r) rs (S := Unit) (fun i _ => ∀ (k : Nat) (b : Int), k < i → bs[k]? = some b → (k : Int) ∉ sh → inb b (x : Int) = inb b (y : Int)) (fun _ => [.dat false (.list (rs.map fun r => dB1 r)), .dat true (.int (x : Nat)), .dat true (.int (y : Nat)), .dat false (dL sh), .un, .un]) () (fr := false) (Γ1 := [.dat false (.list (rs.map fun r => dB1 r)), .dat true (.int (x : Nat)), .dat true (.int (y : Nat)), .dat false (dL sh), .un, .un]) (i_enumL (e_var rfl)) rfl (fun k b h => absurd h (Nat.not_lt_zero _)) ?_ ?_
  · rintro i r ⟨⟩ hri hI
    have hil : i < net.length := by have := (List.getElem?_eq_some_iff.mp hri).1; omega
    obtain ⟨b, hb⟩ : ∃ b, bs[i]? = some b := ⟨_, List.getElem?_eq_getElem (by omega)⟩
    obtain ⟨r1, g1, g2⟩ := reach_at hR hB hil (show x < net.length by omega)
    obtain ⟨r2, g3, g4⟩ := reach_at hR hB hil (show y < net.length by omega)
    rw [hri] at g1 g3
    cases g1
    cases g3
    rw [hb] at g2 g4
    refine ⟨_, rfl, ?_⟩
    apply w_ifB
    · exact t_and (t_tst (e_cmp (e_var rfl) (e_var rfl) (k_ninI (i : Nat) sh))) fun _ => t_tst (e_cmp (e_ixL (e_var rfl) (e_var rfl) (at_nat (f := PyData.bool) g2)) (e_ixL (e_var rfl) (e_var rfl) (at_nat (f := PyData.bool) g4)) (k_neT eqt_bool (by decide) rfl rfl))
    · intro hz
      simp only [Bool.and_eq_true, Bool.not_eq_true', decide_eq_false_iff_not] at hz
      and_intros
      apply w_ret
      · exact e_C
      refine ⟨_, _, rfl, rfl, ?_⟩
      rw [decide_eq_false fun h => hz.2 (sgB_eq.mp h i b hb hz.1)]
    · intro hz
      simp only [Bool.and_eq_false_iff, Bool.not_eq_false', decide_eq_true_eq] at hz
      and_intros
      refine w_nil ⟨(), rfl, fun k b' hk hb' hs => ?_⟩
      by_cases h2 : k < i
      · exact hI k b' h2 hb' hs
      · have : k = i := by omega
        subst this
        rw [hb] at hb'
        cases hb'
        rcases hz with h | h
        · exact absurd h hs
        · exact h
  · rintro ⟨⟩ hI
    apply w_ret
    · exact e_C
    rw [decide_eq_true (sgB_eq.mpr fun k b hb hs => hI k b (by have := (List.getElem?_eq_some_iff.mp hb).1; omega) hb hs)]
    exact ⟨_, _, rfl, rfl, rfl⟩
end PDW
set_option linter.all false
set_option maxRecDepth 100000
set_option maxHeartbeats 0
set_option autoImplicit false
namespace PDW
open PySem L2 PD
open PySem.W (dataLt dataLe alike)
section
variable {f : Int → List Bool} {ms : List Int}
def grp (f : Int → List Bool) (ms : List Int) : List (List Int) := (gps f ms).map (·.2)
theorem gpx_mem {k : List Int} : k ∈ grp f ms ↔ ∃ x ∈ ms, k = ms.filter fun y => decide (f y = f x) := by
  have G := gps_ok f ms
  constructor
  · intro h
    obtain ⟨z, hz, rfl⟩ := List.mem_map.mp h
    obtain ⟨a, b⟩ := G.el z hz
    obtain ⟨x, hx⟩ := List.exists_mem_of_ne_nil _ b
    rw [a] at hx
    obtain ⟨x1, x2⟩ := List.mem_filter.mp hx
    refine ⟨x, x1, ?_⟩
    rw [a, of_decide_eq_true x2]
  · rintro ⟨x, hx, rfl⟩
    exact List.mem_map_of_mem (f := (·.2)) (gps_has hx)
theorem gpx_ne {k : List Int} (h : k ∈ grp f ms) : k ≠ [] := by
  obtain ⟨z, hz, rfl⟩ := List.mem_map.mp h
  exact ((gps_ok f ms).el z hz).2
theorem gpx_unl : (grp f ms).Pairwise fun a b => ∀ x ∈ a, ∀ y ∈ b, f x ≠ f y := by
  have G := gps_ok f ms
  unfold grp
  rw [List.pairwise_map]
  have nd := G.nd
  unfold List.Nodup at nd
  rw [List.pairwise_map] at nd
  refine nd.imp_of_mem fun {a b} ha hb hne x hx y hy e => hne ?_
  rw [(G.el a ha).1] at hx
  rw [(G.el b hb).1] at hy
  rw [← of_decide_eq_true (List.mem_filter.mp hx).2, ← of_decide_eq_true (List.mem_filter.mp hy).2, e]
theorem gpx_nd : (grp f ms).Nodup := by
  refine gpx_unl.imp_of_mem fun {a b} ha hb h e => ?_
  obtain ⟨x, hx⟩ := List.exists_mem_of_ne_nil _ (gpx_ne ha)
  exact h x hx x (by rw [← e]; exact hx) rfl
end
end PDW
set_option linter.all false
set_option maxRecDepth 100000
set_option autoImplicit false
namespace PD
open PySem L2
end PD
set_option linter.all false
set_option maxRecDepth 100000
set_option maxHeartbeats 0
set_option autoImplicit false
namespace PD
open PySem L2
def plL : Pl → PyData
  | .lf ms => .list [.str "left", dT ms]
  | .tr m b g => .list [.str "try", .int m, plL b, plL g]
inductive PT where
  | lf (k : Nat) (ms : List Int)
  | tr (k : Nat) (m : Int) (b g : PT)
def PT.id : PT → Nat
  | .lf k _ => k
  | .tr k _ _ _ => k
def PT.pl : PT → Pl
  | .lf _ ms => .lf ms
  | .tr _ m b g => .tr m b.pl g.pl
def PT.ids : PT → List Nat
  | .lf k _ => [k]
  | .tr k _ b g => k :: (b.ids ++ g.ids)
def PT.lv : PT → List Nat
  | .lf k _ => [k]
  | .tr _ _ b g => b.lv ++ g.lv
def lfI (ms : List Int) : List Itm := [.d (.str "left"), .d (dT ms)]
def trI (m : Int) (b g : Nat) : List Itm := [.d (.str "try"), .d (.int m), .r b, .r g]
def Rp (ns : List (List Itm)) : PT → Prop
  | .lf k ms => ns[k]? = some (lfI ms)
  | .tr k m b g => ns[k]? = some (trI m b.id g.id) ∧ Rp ns b ∧ Rp ns g
def PT.grow (k : Nat) (m : Int) (b : Nat) (mb : List Int) (g : Nat) (mg : List Int) : PT → PT
  | .lf j ms => if j = k then .tr k m (.lf b mb) (.lf g mg) else .lf j ms
  | .tr j n x y => .tr j n (x.grow k m b mb g mg) (y.grow k m b mb g mg)
section
variable {k b g : Nat} {m : Int} {mb mg ms : List Int} {ns ns' : List (List Itm)}
theorem grow_id : ∀ t : PT, (t.grow k m b mb g mg).id = t.id
  | .lf j ms => by
    unfold PT.grow
    split
    · rename_i h; rw [h]; rfl
    · rfl
  | .tr j n x y => rfl
theorem lv_ids : ∀ {t : PT} {j : Nat}, j ∈ t.lv → j ∈ t.ids
  | .lf k _, j, h => h
  | .tr k _ b g, j, h => by
    rcases List.mem_append.mp h with h | h
    · exact List.mem_cons_of_mem _ (List.mem_append_left _ (lv_ids h))
    · exact List.mem_cons_of_mem _ (List.mem_append_right _ (lv_ids h))
theorem lv_lf : ∀ {t : PT} {j : Nat}, Rp ns t → j ∈ t.lv → ∃ ms, ns[j]? = some (lfI ms)
  | .lf k ms, j, h, hj => by
    have : j = k := by simpa [PT.lv] using hj
    rw [this]; exact ⟨ms, h⟩
  | .tr k _ b g, j, h, hj => by
    rcases List.mem_append.mp hj with z | z
    · exact lv_lf h.2.1 z
    · exact lv_lf h.2.2 z
theorem lf_tr {ms : List Int} {m : Int} {b g : Nat} : lfI ms ≠ trI m b g := by
  intro h
  have := congrArg List.length h
  simp [lfI, trI] at this
theorem rp_grow (hk : ns[k]? = some (lfI ms)) (h1 : ns'[k]? = some (trI m b g)) (h2 : ns'[b]? = some (lfI mb)) (h3 : ns'[g]? = some (lfI mg)) : ∀ {t : PT}, (∀ j ∈ t.ids, j ≠ k → ns'[j]? = ns[j]?) → Rp ns t → Rp ns' (t.grow k m b mb g mg)
  | .lf j ms, e, h => by
    unfold PT.grow
    split
    · exact ⟨h1, h2, h3⟩
    · rename_i hj
      show ns'[j]? = _
      rw [e j (by simp [PT.ids]) hj]
      exact h
  | .tr j n x y, e, h => by
    obtain ⟨q1, q2, q3⟩ := h
    have hj : j ≠ k := fun z => by
      rw [z, hk] at q1
      exact lf_tr (Option.some.inj q1)
    refine ⟨?_, rp_grow hk h1 h2 h3 (fun i hi => e i (by simp [PT.ids, hi])) q2, rp_grow hk h1 h2 h3 (fun i hi => e i (by simp [PT.ids, hi])) q3⟩
    rw [grow_id, grow_id, e j (by simp [PT.ids]) hj]
    exact q1
theorem ids_grow : ∀ {t : PT} {j : Nat}, j ∈ (t.grow k m b mb g mg).ids → j ∈ t.ids ∨ j = b ∨ j = g
  | .lf i ms, j, h => by
    unfold PT.grow at h
    split at h
    · rename_i e
      simp [PT.ids] at h ⊢
      rcases h with h | h | h
      · exact .inl (h.trans e.symm)
      · exact .inr (.inl h)
      · exact .inr (.inr h)
    · exact .inl h
  | .tr i n x y, j, h => by
    have h : j ∈ i :: ((x.grow k m b mb g mg).ids ++ (y.grow k m b mb g mg).ids) := h
    rcases List.mem_cons.mp h with h | h
    · exact .inl (by simp [PT.ids, h])
    · rcases List.mem_append.mp h with h | h
      · exact (ids_grow h).imp (fun z => by simp [PT.ids, z]) id
      · exact (ids_grow h).imp (fun z => by simp [PT.ids, z]) id
theorem grow_out : ∀ {t : PT}, k ∉ t.lv → t.grow k m b mb g mg = t
  | .lf j ms, h => by
    unfold PT.grow
    rw [if_neg fun z => h (by simp [PT.lv, z])]
  | .tr j n x y, h => by
    have h : k ∉ x.lv ++ y.lv := h
    rw [List.mem_append, not_or] at h
    show PT.tr j n (x.grow k m b mb g mg) (y.grow k m b mb g mg) = _
    rw [grow_out h.1, grow_out h.2]
theorem lv_grow : ∀ {t : PT}, t.lv.Nodup → k ∈ t.lv → (t.grow k m b mb g mg).lv.Perm (b :: g :: t.lv.erase k)
  | .lf j ms, _, h => by
    have h : k = j := by simpa [PT.lv] using h
    subst h
    unfold PT.grow
    rw [if_pos rfl]
    simp [PT.lv]
  | .tr j n x y, hn, h => by
    have hn : (x.lv ++ y.lv).Nodup := hn
    have h : k ∈ x.lv ++ y.lv := h
    obtain ⟨n1, n2, n3⟩ := List.nodup_append.mp hn
    show ((x.grow k m b mb g mg).lv ++ (y.grow k m b mb g mg).lv).Perm (b :: g :: (x.lv ++ y.lv).erase k)
    by_cases hx : k ∈ x.lv
    · have hy : k ∉ y.lv := fun z => n3 k hx k z rfl
      rw [grow_out hy, List.erase_append_left _ hx]
      exact (lv_grow n1 hx).append_right y.lv
    · have hy : k ∈ y.lv := (List.mem_append.mp h).resolve_left hx
      rw [grow_out hx, List.erase_append_right _ hx]
      refine ((lv_grow n2 hy).append_left x.lv).trans ?_
      refine List.perm_middle.trans (List.Perm.cons _ ?_)
      exact List.perm_middle
theorem dpt_lv : ∀ t : PT, dpt t.pl + 1 ≤ t.lv.length
  | .lf _ _ => by simp [PT.pl, dpt, PT.lv]
  | .tr _ _ x y => by
    have h1 := dpt_lv x
    have h2 := dpt_lv y
    simp only [PT.pl, dpt, PT.lv, List.length_append]
    omega
theorem lvs_lv : ∀ t : PT, (lvs t.pl).length = t.lv.length
  | .lf _ _ => by simp [PT.pl, lvs, PT.lv]
  | .tr _ _ x y => by
    simp only [PT.pl, lvs, PT.lv, List.length_append, List.length_map, lvs_lv x, lvs_lv y]
theorem unr_rp : ∀ {F : Nat} {t : PT}, Rp ns t → dpt t.pl < F → unr ns F t.id = some (plL t.pl)
  | 0, t, _, h => by omega
  | F + 1, .lf k ms, h, _ => by
    have h : ns[k]? = some (lfI ms) := h
    show ((ns[k]?).bind fun nd => (unrL (unr ns F) nd).map PyData.list) = _
    rw [h]; rfl
  | F + 1, .tr k m x y, h, hd => by
    obtain ⟨q1, q2, q3⟩ := h
    have hd : 1 + max (dpt x.pl) (dpt y.pl) < F + 1 := hd
    show ((ns[k]?).bind fun nd => (unrL (unr ns F) nd).map PyData.list) = _
    rw [q1]
    have e1 := unr_rp (F := F) q2 (by omega)
    have e2 := unr_rp (F := F) q3 (by omega)
    show (unrL (unr ns F) (trI m x.id y.id)).map PyData.list = _
    simp [trI, unrL, e1, e2, PT.pl, plL]
end
def PlG (lim : Int) (Q : List Int → Prop) : Pl → Prop
  | .lf ms => Q ms
  | .tr m b g => (0 ≤ m ∧ m < lim) ∧ PlG lim Q b ∧ PlG lim Q g
theorem plG_grow {lim : Int} {Q : List Int → Prop} {k b g : Nat} {m : Int} {mb mg : List Int} (hm : 0 ≤ m ∧ m < lim) (hb : Q mb) (hg : Q mg) : ∀ {t : PT}, PlG lim Q t.pl → PlG lim Q (t.grow k m b mb g mg).pl
  | .lf j ms, h => by
    unfold PT.grow
    split
    · exact ⟨hm, hb, hg⟩
    · exact h
  | .tr j n x y, h => ⟨h.1, plG_grow hm hb hg h.2.1, plG_grow hm hb hg h.2.2⟩
section
variable {Γ Γ1 Γ2 : List Sl} {i j k x : Nat} {ns : List (List Itm)} {nd : List Itm} {f : DF} {r : DS} {P : Fw → List Sl → Prop}
end
end PD
set_option linter.all false
set_option maxRecDepth 100000
set_option maxHeartbeats 0
set_option autoImplicit false
namespace PD
open PySem L2
structure GrI (lim : Int) (Q : List Int → Prop) (i : Nat) (L : List Nat) (t : PT) (ns : List (List Itm)) : Prop where
  two : 2 ≤ ns.length
  id : t.id = 0
  rp : Rp ns t
  lv : ns[1]? = some (L.map Itm.r)
  pm : L.Perm t.lv
  nd : t.lv.Nodup
  lt : ∀ j ∈ t.ids, j < ns.length
  n1 : 1 ∉ t.ids
  ln : L.length = i + 1
  pg : PlG lim Q t.pl
theorem GrI.start {lim : Int} {Q : List Int → Prop} {ms : List Int} (h : Q ms) : GrI lim Q 0 [0] (.lf 0 ms) [lfI ms, [.r 0]] :=
  ⟨by simp, rfl, rfl, rfl, List.Perm.refl _, by simp [PT.lv], by simp [PT.ids], by simp [PT.ids], rfl, h⟩
theorem GrI.step {lim : Int} {Q : List Int → Prop} {i a k : Nat} {L : List Nat} {t : PT} {ns : List (List Itm)} {m : Int} {mb mg : List Int} (G : GrI lim Q i L t ns) (ha : L[a]? = some k) (hm : 0 ≤ m ∧ m < lim) (hb : Q mb) (hg : Q mg) :
    GrI lim Q (i + 1) (L.eraseIdx a ++ [ns.length, ns.length + 1]) (t.grow k m ns.length mb (ns.length + 1) mg)
      (((((ns.set 1 ((L.eraseIdx a).map Itm.r)).set k []) ++ [lfI mb] ++ [lfI mg]).set k (trI m ns.length (ns.length + 1))).set 1 ((L.eraseIdx a ++ [ns.length, ns.length + 1]).map Itm.r)) := by
  obtain ⟨two, id0, rp, lv, pm, nd, lt, n1, ln, pg⟩ := G
  have hkL : k ∈ L := List.mem_of_getElem? ha
  have hkv : k ∈ t.lv := pm.mem_iff.mp hkL
  have hki : k ∈ t.ids := lv_ids hkv
  have hk1 : k ≠ 1 := fun z => n1 (z ▸ hki)
  have hkl := lt k hki
  obtain ⟨ms, hms⟩ := lv_lf rp hkv
  have hal : a < L.length := (List.getElem?_eq_some_iff.mp ha).1
  have pme : (k :: L.eraseIdx a).Perm L := by
    have h1 : L = L.take a ++ k :: L.drop (a + 1) := by
      conv => lhs; rw [← List.take_append_drop a L]
      rw [List.drop_eq_getElem_cons hal]
      rw [List.getElem?_eq_getElem hal] at ha
      rw [Option.some.inj ha]
    rw [List.eraseIdx_eq_take_drop_succ]
    conv => rhs; rw [h1]
    exact List.perm_middle.symm
  have per : (L.eraseIdx a).Perm (t.lv.erase k) := by
    have := pme.trans pm
    have h2 := this.erase k
    rw [List.erase_cons_head] at h2
    exact h2
  have pl : (t.grow k m ns.length mb (ns.length + 1) mg).lv.Perm (ns.length :: (ns.length + 1) :: t.lv.erase k) := lv_grow nd hkv
  let N1 := (ns.set 1 ((L.eraseIdx a).map Itm.r)).set k []
  have l1 : N1.length = ns.length := by simp [N1]
  have big : ∀ j ∈ t.lv, j < ns.length := fun j h => lt j (lv_ids h)
  have at1 : ∀ (x : List Itm) (M : List (List Itm)), 1 < M.length → (M.set 1 x)[1]? = some x := fun x M h => List.getElem?_set_self h
  refine ⟨?_, by rw [grow_id]; exact id0, ?_, ?_, ?_, ?_, fun j hj => ?_, fun hj => ?_, ?_, plG_grow hm hb hg pg⟩
  · simp <;> omega
  · refine rp_grow hms ?_ ?_ ?_ (fun j hj hne => ?_) rp
    · rw [List.getElem?_set_ne (Ne.symm hk1), List.getElem?_set_self (by simp; omega)]
    · rw [List.getElem?_set_ne (by omega), List.getElem?_set_ne (by omega), List.append_assoc, List.getElem?_append_right (by simp)]
      simp
    · rw [List.getElem?_set_ne (by omega), List.getElem?_set_ne (by omega), List.append_assoc, List.getElem?_append_right (by simp)]
      simp
    · have hjl := lt j hj
      have hj1 : j ≠ 1 := fun z => n1 (z ▸ hj)
      rw [List.getElem?_set_ne (Ne.symm hj1), List.getElem?_set_ne (Ne.symm hne), List.append_assoc, List.getElem?_append_left (by simp; exact hjl), List.getElem?_set_ne (Ne.symm hne), List.getElem?_set_ne (Ne.symm hj1)]
  · rw [List.getElem?_set_self (by simp <;> omega)]
  · refine List.Perm.trans ?_ pl.symm
    exact List.perm_append_comm.trans ((per.cons _).cons _)
  · rw [pl.nodup_iff]
    have e1 : ∀ j ∈ t.lv.erase k, j < ns.length := fun j h => big j (List.mem_of_mem_erase h)
    refine List.nodup_cons.mpr ⟨fun h => ?_, List.nodup_cons.mpr ⟨fun h => ?_, nd.erase k⟩⟩
    · rcases List.mem_cons.mp h with h | h
      · omega
      · have := e1 _ h; omega
    · have := e1 _ h; omega
  · simp
    rcases ids_grow hj with h | h | h
    · have := lt j h; omega
    · omega
    · omega
  · rcases ids_grow hj with h | h | h
    · exact n1 h
    · omega
    · omega
  · rw [List.length_append, List.length_eraseIdx, if_pos hal]
    simp; omega
theorem GrI.out {lim : Int} {Q : List Int → Prop} {i : Nat} {L : List Nat} {t : PT} {ns : List (List Itm)} (G : GrI lim Q i L t ns) (hi : i < 90) : unr ns 100 0 = some (plL t.pl) ∧ dpt t.pl ≤ i ∧ (lvs t.pl).length = i + 1 := by
  have h1 := dpt_lv t
  have h2 : t.lv.length = i + 1 := by rw [← G.pm.length_eq]; exact G.ln
  refine ⟨?_, by omega, by rw [lvs_lv, h2]⟩
  rw [← G.id]
  exact unr_rp G.rp (by omega)
end PD
set_option linter.all false
set_option maxRecDepth 100000
set_option maxHeartbeats 0
set_option autoImplicit false
namespace PD
open PySem L2
end PD
set_option linter.all false
set_option maxRecDepth 100000
set_option maxHeartbeats 0
set_option autoImplicit false
namespace PD
open PySem L2
end PD
set_option linter.all false
set_option maxRecDepth 100000
set_option maxHeartbeats 0
set_option autoImplicit false
namespace PD
open PySem L2 PDW
open PySem.W (dataLt dataLe alike)
end PD
set_option linter.all false
set_option maxRecDepth 100000
set_option maxHeartbeats 0
set_option autoImplicit false
namespace PD
open PySem L2 PDW
end PD
set_option linter.all false
set_option maxRecDepth 100000
set_option maxHeartbeats 0
set_option autoImplicit false
namespace PDW
open PySem L2 PD
section
variable {net : List (List Int)} {W : SW} {rs : List (List Bool)}
end
end PDW
set_option linter.all false
set_option maxRecDepth 100000
set_option maxHeartbeats 0
set_option autoImplicit false
namespace PDW
open PySem L2 PD
theorem h9 : (20 : Int) ≤ 10 ^ 30 := by decide
theorem x_callNq {Γ Γ1 : List Sl} {m : List Ar → R (Rs × List Sl)} {dds : List PyData} {n0 : DC} {cs : List Int} {c : Cl} {r : Rs} {Z : List Sl} (h1 : n0 Γ = .val (c, Γ1)) (h2 : m (arN c cs dds) = .val (r, Z)) : xCallN m dds n0 cs Γ = .val (r, Γ1) := by
  unfold xCallN
  rw [h1, bind_val]
  show ((R.req true).bind _) = _
  rw [req_true, bind_val, h2]; rfl
theorem n_X {Γ Γ1 : List Sl} {x : DX} {c : Cl} (h : x Γ = .val (.c c, Γ1)) : nX x Γ = .val (c, Γ1) := by unfold nX; rw [h]; rfl
end PDW
set_option linter.all false
set_option maxRecDepth 100000
set_option autoImplicit false
namespace PD
open PySem L2
end PD
set_option linter.all false
set_option maxRecDepth 100000
set_option maxHeartbeats 0
set_option autoImplicit false
namespace PD
open PySem L2
def Th : Nat → PyData → Prop
  | _, .none => True
  | _, .bool _ => True
  | _, .int _ => True
  | _, .str x => PyData.strOk x = true
  | 0, .tuple _ => False
  | 0, .list _ => False
  | n + 1, .tuple xs => xs.length ≤ 1000 ∧ ∀ x ∈ xs, Th n x
  | n + 1, .list xs => xs.length ≤ 1000 ∧ ∀ x ∈ xs, Th n x
  | _, .dict _ => False
theorem Th.mono : ∀ {n m : Nat} {d : PyData}, Th n d → n ≤ m → Th m d
  | n, m, .none, _, _ => by cases m <;> trivial
  | n, m, .bool _, _, _ => by cases m <;> trivial
  | n, m, .int _, _, _ => by cases m <;> trivial
  | n, m, .str x, h, _ => by cases n <;> cases m <;> exact h
  | 0, m, .tuple _, h, _ => h.elim
  | 0, m, .list _, h, _ => h.elim
  | n + 1, 0, .tuple _, h, l => by omega
  | n + 1, 0, .list _, h, l => by omega
  | n + 1, m + 1, .tuple xs, h, l => ⟨h.1, fun x hx => Th.mono (h.2 x hx) (by omega)⟩
  | n + 1, m + 1, .list xs, h, l => ⟨h.1, fun x hx => Th.mono (h.2 x hx) (by omega)⟩
  | 0, m, .dict _, h, _ => h.elim
  | n + 1, m, .dict _, h, _ => h.elim
theorem canLays {xs : List PyData} (h : ∀ x ∈ xs, x.canLay0 = true) : PyData.canLayAll0 xs = true := by
  induction xs with
  | nil => rw [PyData.canLayAll0]
  | cons x r ih =>
    rw [PyData.canLayAll0, h x (by simp), ih fun y hy => h y (by simp [hy])]; rfl
theorem depths {xs : List PyData} {n : Nat} (h : ∀ x ∈ xs, x.depth ≤ n) : PyData.depthAll xs ≤ n := by
  induction xs with
  | nil => rw [PyData.depthAll]; omega
  | cons x r ih =>
    rw [PyData.depthAll]
    have := h x (by simp)
    have := ih fun y hy => h y (by simp [hy])
    omega
theorem Th.lay : ∀ {n : Nat} {d : PyData}, Th n d → d.canLay0 = true ∧ d.depth ≤ n
  | n, .none, _ => ⟨by rw [PyData.canLay0], by rw [PyData.depth]; omega⟩
  | n, .bool _, _ => ⟨by rw [PyData.canLay0], by rw [PyData.depth]; omega⟩
  | n, .int _, _ => ⟨by rw [PyData.canLay0], by rw [PyData.depth]; omega⟩
  | n, .str x, h => ⟨by rw [PyData.canLay0]; cases n <;> exact h, by rw [PyData.depth]; omega⟩
  | 0, .tuple _, h => h.elim
  | 0, .list _, h => h.elim
  | n + 1, .tuple xs, h => ⟨by rw [PyData.canLay0]; exact canLays fun x hx => (Th.lay (h.2 x hx)).1, by rw [PyData.depth]; have := depths fun x hx => (Th.lay (h.2 x hx)).2; omega⟩
  | n + 1, .list xs, h => ⟨by rw [PyData.canLay0]; exact canLays fun x hx => (Th.lay (h.2 x hx)).1, by rw [PyData.depth]; have := depths fun x hx => (Th.lay (h.2 x hx)).2; omega⟩
  | 0, .dict _, h => h.elim
  | n + 1, .dict _, h => h.elim
theorem Th.sh {n : Nat} {d : PyData} (h : Th n d) (hn : n ≤ 64) : SeqAt.shaped d = true := by
  obtain ⟨h1, h2⟩ := h.lay
  unfold SeqAt.shaped
  rw [h1, decide_eq_true (show d.depth ≤ 64 by omega)]; rfl
theorem Th.tup {n : Nat} {xs : List PyData} (h : Th n (.tuple xs)) : xs.length ≤ 1000 ∧ ∀ x ∈ xs, Th (n - 1) x := by
  cases n with
  | zero => exact h.elim
  | succ n => exact h
theorem Th.lst {n : Nat} {xs : List PyData} (h : Th n (.list xs)) : xs.length ≤ 1000 ∧ ∀ x ∈ xs, Th (n - 1) x := by
  cases n with
  | zero => exact h.elim
  | succ n => exact h
end PD
set_option linter.all false
set_option maxRecDepth 100000
set_option maxHeartbeats 0
set_option autoImplicit false
namespace PDW
open PySem L2 PD
open PySem.W (dataLt dataLe alike alikeAll)
section
variable {net : List (List Int)} {W : SW} {row hs : List Int} {bd : PyData}
end
inductive SmD : Nat → PyData → Prop
  | int (n : Nat) (i : Int) : SmD n (.int i)
  | non (n : Nat) : SmD n .none
  | str (n : Nat) (s : Str) : SeqAt.shaped (.str s) = true → PyData.eqv (.str s) (.str s) = true → SmD n (.str s)
  | lst (n : Nat) (xs : List PyData) : (∀ x ∈ xs, SmD n x) → xs.length ≤ 100000 → SmD (n + 1) (.list xs)
  | tup (n : Nat) (xs : List PyData) : (∀ x ∈ xs, SmD n x) → xs.length ≤ 100000 → SmD (n + 1) (.tuple xs)
theorem zipD_self (xs : List PyData) : zipD xs xs = xs.map fun x => .tuple [x, x] := by
  unfold zipD
  induction xs with
  | nil => rfl
  | cons x r ih => rw [List.zipWith_cons_cons, ih]; rfl
theorem k_eqB2 {Γ : List Sl} {f1 f2 a b : Bool} : kEq Γ (.d f1 (.bool a)) (.d f2 (.bool b)) = .val (decide (a = b)) := k_eqT eqt_bool (by decide) rfl rfl
theorem k_neB2 {Γ : List Sl} {f1 f2 a b : Bool} : kNe Γ (.d f1 (.bool a)) (.d f2 (.bool b)) = .val (!decide (a = b)) := k_neT eqt_bool (by decide) rfl rfl
theorem same_q : ∀ (n : Nat) (F : Nat) (d : PyData), SmD n d → n < F → u_qsame F [.d d, .d d] = .val (.d (.bool true), [.un, .un])
  | _, 0, _, _, h => absurd h (Nat.not_lt_zero _)
  | _, F + 1, _, .int n i, h => by
    refine ok_eq (ok_run rfl ?_)
    unfold b_qsame
    apply w_ifN
    · exact t_tst (e_isi (e_var rfl) rfl rfl)
    · rfl
    and_intros
    apply w_ifN
    · exact t_tst (e_cmp (e_var rfl) e_C (k_is (p := .int i) rfl))
    · rfl
    and_intros
    apply w_ifN
    · exact t_tst (e_isi (e_var rfl) rfl rfl)
    · rfl
    and_intros
    apply w_ret
    · exact e_and (e_isi (e_var rfl) rfl rfl) fun _ => e_and (e_cmp (e_isi (e_var rfl) rfl rfl) (e_isi (e_var rfl) rfl rfl) k_eqB2) fun _ => e_cmp (e_var rfl) (e_var rfl) k_eqI
    refine ⟨_, _, rfl, rfl, ?_⟩
    simp [tyIs]
  | _, F + 1, _, .non n, h => by
    refine ok_eq (ok_run rfl ?_)
    unfold b_qsame
    apply w_ifN
    · exact t_tst (e_isi (e_var rfl) rfl rfl)
    · rfl
    and_intros
    apply w_ifY
    · exact t_tst (e_cmp (e_var rfl) e_C (k_is (p := .none) rfl))
    · rfl
    and_intros
    apply w_ret
    · exact e_cmp (e_var rfl) e_C (k_is (p := .none) rfl)
    exact ⟨_, _, rfl, rfl, rfl⟩
  | _, F + 1, _, .str n s h1 h2, h => by
    refine ok_eq (ok_run rfl ?_)
    unfold b_qsame
    apply w_ifN
    · exact t_tst (e_isi (e_var rfl) rfl rfl)
    · rfl
    and_intros
    apply w_ifN
    · exact t_tst (e_cmp (e_var rfl) e_C (k_is (p := .str s) rfl))
    · rfl
    and_intros
    apply w_ifY
    · exact t_tst (e_isi (e_var rfl) rfl rfl)
    · rfl
    and_intros
    apply w_ret
    · exact e_and (e_isi (e_var rfl) rfl rfl) fun _ => e_cmp (e_var rfl) (e_var rfl) (k_eq (p := .str s) (q := .str s) rfl rfl h1 h1 h2)
    exact ⟨_, _, rfl, rfl, rfl⟩
  | _, F + 1, _, .lst n xs hx hl, h => by
    have ih := fun x (hxx : x ∈ xs) => same_q n F x (hx x hxx) (by omega)
    refine ok_eq (ok_run rfl ?_)
    unfold b_qsame
    rw [show initS 4 [Ar.d (.list xs), Ar.d (.list xs)] = [.dat false (.list xs), .dat false (.list xs), .un, .un] from rfl]
    apply w_ifY
    · exact t_tst (e_isi (e_var rfl) rfl rfl)
    · rfl
    and_intros
    apply w_ifN
    · exact t_or (t_tst (e_cmp (e_isi (e_var rfl) rfl rfl) (e_isi (e_var rfl) rfl rfl) k_neB2)) fun _ => t_tst (e_cmp (e_isi (e_var rfl) rfl rfl) (e_isi (e_var rfl) rfl rfl) k_neB2)
    · rfl
    and_intros
    apply w_ret
    · refine e_and (fr2 := true) (z2 := true) (e_cmp (e_B (a_cons (e_var rfl) a_nil) (k_lenL rfl)) (e_B (a_cons (e_var rfl) a_nil) (k_lenL rfl)) k_eqI) fun _ => ?_
      refine e_B (a_cons (e_ofN (n_map (enc := fun x => .tuple [x, x]) xs (fun _ => .bool true) (fr := false) (Γ1 := [.dat false (.list xs), .dat false (.list xs), .un, .un]) ?_ (by omega) rfl fun x hxx => ?_)) a_nil) (k_allT xs)
      · rw [← zipD_self]
        exact i_zipX (f1 := false) (f2 := false) (e_var rfl) (e_var rfl) rfl rfl
      · exact ⟨_, rfl, rfl, e_frz (e_x (x_call (a_cons (e_var rfl) (a_cons (e_var rfl) a_nil)) rfl (ih x hxx)) rfl)⟩
    exact ⟨_, _, rfl, rfl, by simp⟩
  | _, F + 1, _, .tup n xs hx hl, h => by
    have ih := fun x (hxx : x ∈ xs) => same_q n F x (hx x hxx) (by omega)
    refine ok_eq (ok_run rfl ?_)
    unfold b_qsame
    rw [show initS 4 [Ar.d (.tuple xs), Ar.d (.tuple xs)] = [.dat false (.tuple xs), .dat false (.tuple xs), .un, .un] from rfl]
    apply w_ifY
    · exact t_tst (e_isi (e_var rfl) rfl rfl)
    · rfl
    and_intros
    apply w_ifN
    · exact t_or (t_tst (e_cmp (e_isi (e_var rfl) rfl rfl) (e_isi (e_var rfl) rfl rfl) k_neB2)) fun _ => t_tst (e_cmp (e_isi (e_var rfl) rfl rfl) (e_isi (e_var rfl) rfl rfl) k_neB2)
    · rfl
    and_intros
    apply w_ret
    · refine e_and (fr2 := true) (z2 := true) (e_cmp (e_B (a_cons (e_var rfl) a_nil) (k_lenT rfl)) (e_B (a_cons (e_var rfl) a_nil) (k_lenT rfl)) k_eqI) fun _ => ?_
      refine e_B (a_cons (e_ofN (n_map (enc := fun x => .tuple [x, x]) xs (fun _ => .bool true) (fr := false) (Γ1 := [.dat false (.tuple xs), .dat false (.tuple xs), .un, .un]) ?_ (by omega) rfl fun x hxx => ?_)) a_nil) (k_allT xs)
      · rw [← zipD_self]
        exact i_zipX (f1 := false) (f2 := false) (e_var rfl) (e_var rfl) rfl rfl
      · exact ⟨_, rfl, rfl, e_frz (e_x (x_call (a_cons (e_var rfl) (a_cons (e_var rfl) a_nil)) rfl (ih x hxx)) rfl)⟩
    exact ⟨_, _, rfl, rfl, by simp⟩
end PDW
set_option linter.all false
set_option maxRecDepth 100000
set_option maxHeartbeats 0
set_option autoImplicit false
namespace PDW
open PySem L2 PD
open PySem.W (dataLt dataLe alike)
theorem ins_map (xs : List Int) (a x : Int) : (insI xs a x).map PyData.int = insI (xs.map PyData.int) a (.int x) := by
  unfold insI
  rw [List.map_append, List.map_append, List.map_take, List.map_drop]
  rfl
theorem ins_len (xs : List Int) (a x : Int) : (insI xs a x).length ≤ xs.length + 1 := by
  unfold insI
  simp
  omega
theorem ins_mem {xs : List Int} {a x y : Int} (h : y ∈ insI xs a x) : y ∈ xs ∨ y = x := by
  unfold insI at h
  rcases List.mem_append.mp h with h | h
  · rcases List.mem_append.mp h with h | h
    · exact .inl (List.mem_of_mem_take h)
    · exact .inr (by simpa using h)
  · exact .inl (List.mem_of_mem_drop h)
theorem makes_p (d : Dk3) (B : Nat) (hd : BB d B) (hB : B < 2 ^ 50) (n : Nat) (h1 : 1 ≤ n) (h2 : n ≤ 100) : ∃ (xs : List Int) (d' : Dk3), u_qmakes [.c (dk d), .d (.int (n : Nat))] = .val (.c (.lst (xs.map PyData.int)), [.io (dk d'), .un]) ∧ xs.length ≤ n + 4 ∧ (∀ x ∈ xs, 0 ≤ x ∧ x < (n : Int)) ∧ BB d' (B + 500) := by
  have key : Ok (u_qmakes [.c (dk d), .d (.int (n : Nat))]) fun z => ∃ (xs : List Int) (d' : Dk3), z = (.c (.lst (xs.map PyData.int)), [.io (dk d'), .un]) ∧ xs.length ≤ n + 4 ∧ (∀ x ∈ xs, 0 ≤ x ∧ x < (n : Int)) ∧ BB d' (B + 500) := by
    refine ok_run rfl ?_
    unfold b_qmakes
    have big : (2 : Nat) ^ 20 ≤ sizeLine := by decide
    bv_decide
    refine w_forR (N := (n : Nat)) (S := List Int × Dk3) (fun i s => s.1.length ≤ i ∧ (∀ x ∈ s.1, 0 ≤ x ∧ x < (n : Int)) ∧ BB s.2 (B + 2 * i)) (fun s => [.io (dk s.2), .dat true (.int (n : Nat)), .own (.lst (s.1.map PyData.int)), .un, .un]) ([], d) (i_range1 (e_var rfl) (cRng_of (by decide) (by decide) (by omega) (by omega))) rfl ⟨by simp, by simp, hd⟩ ?_ ?_
    · rintro i ⟨xs, d2⟩ hi ⟨q1, q2, q3⟩
      dsimp only at q1 q2 q3 ⊢
      refine ⟨_, rfl, ?_⟩
      obtain ⟨t, d3, ht, t0, t1, hd3⟩ := draw_q d2 _ q3 (by omega) 3 (by omega) (by omega)
      apply_assumption
      · intro _
        obtain ⟨a, d4, ha, a0, a1, hd4⟩ := draw_q d3 _ hd3 (by omega) ((xs.length : Nat) + 1) (by omega) (by omega)
        and_intros
        apply w_expr
        · apply e_ins
          · rfl
          · apply a_cons
            · array_mem_dec
            · exact a_cons (e_frz (e_var rfl)) a_nil
          · rfl
          · unfold cIns
            rw [decide_eq_true (by rw [List.length_map]; omega), decide_eq_true ⟨by omega, by omega⟩]
            rfl
        and_intros
        refine w_nil ⟨(insI xs a (i : Int), d4), by rw [ins_map]; rfl, Nat.le_trans (ins_len _ _ _) (by omega), fun x hx => ?_, hd4.mono (by omega)⟩
        rcases ins_mem hx with h | h
        · exact q2 x h
        · omega
      · intro _
        and_intros
        exact w_nil ⟨(xs, d3), rfl, Nat.le_succ_of_le q1, q2, hd3.mono (by omega)⟩
    · rintro ⟨xs, d2⟩ ⟨q1, q2, q3⟩
      dsimp only at q1 q2 q3 ⊢
      obtain ⟨k, d3, hk, k0, k1, hd3⟩ := draw_q d2 _ q3 (by omega) 4 (by omega) (by omega)
      refine w_forR (N := k) (S := List Int × Dk3) (fun i s => s.1.length ≤ n + i ∧ (∀ x ∈ s.1, 0 ≤ x ∧ x < (n : Int)) ∧ BB s.2 (B + 2 * n + 1 + 2 * i)) (fun s => [.io (dk s.2), .dat true (.int (n : Nat)), .own (.lst (s.1.map PyData.int)), .un, .un]) (xs, d3) (i_range1 (fr := true) (e_x (x_callE (a_cons (e_varI rfl) (a_cons e_C a_nil)) rfl rfl rfl rfl hk rfl rfl) rfl) (cRng_of (by decide) (by decide) (by omega) (by omega))) rfl ⟨by dsimp only; omega, q2, hd3.mono (by omega)⟩ ?_ ?_
      · rintro i ⟨xs, d4⟩ hi ⟨q1, q2, q3⟩
        dsimp only at q1 q2 q3 ⊢
        refine ⟨_, rfl, ?_⟩
        obtain ⟨a, d5, ha, a0, a1, hd5⟩ := draw_q d4 _ q3 (by omega) ((xs.length : Nat) + 1) (by omega) (by omega)
        obtain ⟨y, d6, hy, y0, y1, hd6⟩ := draw_q d5 _ hd5 (by omega) (n : Nat) (by omega) (by omega)
        apply w_expr
        · apply e_ins
          · rfl
          · apply a_cons
            · array_mem_dec
            · apply a_cons
              · apply e_frz
                array_mem_dec
              · exact a_nil
          · rfl
          · unfold cIns
            rw [decide_eq_true (by rw [List.length_map]; omega), decide_eq_true ⟨by omega, by omega⟩]
            rfl
        refine w_nil ⟨(insI xs a y, d6), by rw [ins_map]; rfl, Nat.le_trans (ins_len _ _ _) (by omega), fun x hx => ?_, hd6.mono (by omega)⟩
        rcases ins_mem hx with h | h
        · exact q2 x h
        · omega
      · rintro ⟨xs, d4⟩ ⟨q1, q2, q3⟩
        dsimp only at q1 q2 q3 ⊢
        apply w_retO
        · rfl
        exact ⟨_, _, rfl, rfl, xs, d4, rfl, by omega, q2, q3.mono (by omega)⟩
  obtain ⟨z, e, xs, d', rfl, h⟩ := key
  exact ⟨xs, d', e, h⟩
abbrev rowT (k : List Int) : Tre := .lst (k.map fun x => Tre.d (.int x))
theorem trDs_ints : ∀ k : List Int, trDs (k.map fun x => Tre.d (.int x)) = some (k.map PyData.int)
  | [] => by rw [List.map_nil, trDs]; rfl
  | x :: k => by
    rw [List.map_cons, trDs, trD, trDs_ints k]
    rfl
theorem trD_row (k : List Int) : trD (rowT k) = some (dL k) := by
  rw [trD, trDs_ints k]; rfl
theorem trDs_rows : ∀ rows : List (List Int), trDs (rows.map rowT) = some (rows.map dL)
  | [] => by rw [List.map_nil, trDs]; rfl
  | k :: rows => by
    rw [List.map_cons, trDs, trD_row k, trDs_rows rows]
    rfl
theorem selB_map {m : List Ar → R (Rs × List Sl)} {Γ : List Sl} {r : Nat} {ms : List Bool} {as : List Atm} (p : Int → Bool) : ∀ {rows : List (List Int)}, (∀ k ∈ rows, ∃ x us ars Z, k = x :: us ∧ arQ Γ r (.int x) ms as = some ars ∧ m ars = .val (.d (.bool (p x)), Z)) → selB m Γ r ms as (rows.map rowT) = some (rows.map fun k => p (k.headD 0))
  | [], _ => by rw [List.map_nil, selB]; rfl
  | k :: rows, h => by
    obtain ⟨x, us, ars, Z, rfl, h1, h2⟩ := h k (by simp)
    have ih := selB_map p (rows := rows) fun k hk => h k (by simp [hk])
    rw [List.map_cons]
    show selB m Γ r ms as (.lst (.d (.int x) :: us.map fun x => Tre.d (.int x)) :: rows.map rowT) = _
    rw [selB, h1]
    simp only [h2, ih]
    rfl
theorem putT_no {qs : List Bool} {t : Tre} {ts : List Tre} {d : PyData} (hl : qs.length = ts.length) : putT (false :: qs) (t :: ts) d = t :: putT qs ts d := by
  unfold putT
  rw [List.findIdx?_cons]
  cases h : qs.findIdx? (fun z => z) with
  | none => rfl
  | some c =>
    show (match (t :: ts)[c + 1]? with | some (.lst us) => (t :: ts).set (c + 1) (.lst (us ++ [.d d])) | _ => t :: ts) = t :: (match ts[c]? with | some (.lst us) => ts.set c (.lst (us ++ [.d d])) | _ => ts)
    rw [List.getElem?_cons_succ]
    cases e : ts[c]? with
    | none => rfl
    | some u => cases u <;> rfl
theorem putT_yes {qs : List Bool} {us ts : List Tre} {d : PyData} : putT (true :: qs) (.lst us :: ts) d = .lst (us ++ [.d d]) :: ts := by
  unfold putT
  rw [List.findIdx?_cons]
  rfl
theorem put_addG {f : Int → List Bool} {m : Int} : ∀ {s : List Gp}, (∀ z ∈ s, f (z.2.headD 0) = z.1) → putT ((s.map (·.2)).map fun k => decide (f (k.headD 0) = f m)) ((s.map (·.2)).map rowT) (.int m) = ((addG f s m).map (·.2)).map rowT
  | [], _ => rfl
  | z :: s, h => by
    have hz := h z (by simp)
    have ih := put_addG (f := f) (m := m) (s := s) fun y hy => h y (by simp [hy])
    rw [List.map_cons, List.map_cons, List.map_cons, addG]
    by_cases e : z.1 = f m
    · rw [decide_eq_true (by rw [hz, e]), if_pos e]
      show putT (true :: _) (.lst (z.2.map fun x => Tre.d (.int x)) :: _) _ = _
      rw [putT_yes, List.map_cons, List.map_cons]
      show _ = rowT (z.2 ++ [m]) :: _
      unfold rowT
      rw [List.map_append]; rfl
    · rw [decide_eq_false (by rw [hz]; exact e), if_neg e, putT_no (by simp), ih]
      rfl
theorem selD_rows (qs : List Bool) (rows : List (List Int)) : ∀ k, ∃ ys : List (List Int), selD qs (rows.map rowT) k = ys.map dL
  | 0 => ⟨[], rfl⟩
  | k + 1 => by
    obtain ⟨ys, h⟩ := selD_rows qs rows k
    rw [selD, h]
    split
    · cases e : rows[k]? with
      | none =>
        rw [List.getElem?_map, e]
        exact ⟨ys, by simp⟩
      | some q =>
        rw [List.getElem?_map, e]
        refine ⟨ys ++ [q], ?_⟩
        show ys.map dL ++ (match trD (rowT q) with | some d => [d] | none => []) = _
        rw [trD_row, List.map_append]
        rfl
    · exact ⟨ys, by simp⟩
theorem there_eq {i j r mk : Nat} {m : List Ar → R (Rs × List Sl)} {ms : List Bool} {as : List Atm} {Γ : List Sl} {ts : List Tre} {fr : Bool} {n : Int} {qs : List Bool} (h1 : Γ[j]? = some (.own (.tr (.lst ts)))) (h2 : Γ[mk]? = some (.dat fr (.int n))) (h3 : selB m (Γ.set r .un) r ms as ts = some qs) (h4 : decide (i ≠ j ∧ r ≠ j ∧ i ≠ r ∧ mk ≠ i ∧ mk ≠ r ∧ i < Γ.length ∧ r < Γ.length) = true) (h5 : ts.length < sizeLine) (h6 : ts.all (fun t => lsOk t && (trD t).isSome) = true) (h7 : SeqAt.shaped (.list (selD qs ts ts.length)) = true) :
    bThere i j r mk m ms as Γ = .val (.nx, ((Γ.set r .un).set i .un).set j (.own (.tr (.lst (putT qs ts (.int n)))))) := by
  unfold bThere
  simp only [h1, h2, h3]
  rw [h4, decide_eq_true h5, h6, h7]
  rfl
theorem w_there {i j r mk : Nat} {m : List Ar → R (Rs × List Sl)} {ms : List Bool} {as : List Atm} {Γ Γ1 : List Sl} {b : DS} {P : Fw → List Sl → Prop} (h1 : bThere i j r mk m ms as Γ = .val (.nx, Γ1)) (h : PD.W b Γ1 P) : PD.W (bSeq (bThere i j r mk m ms as) b) Γ P := w_one ⟨_, h1, h⟩
abbrev cS (rs : List (List Bool)) (ms bar : List Int) (x3 x4 : Sl) : List Sl := [.dat false (.list (rs.map fun r => dB1 r)), .dat false (dL ms), .dat false (dL bar), x3, x4, .un, .un]
theorem classes_l {net : List (List Int)} {bs : List Int} {rs : List (List Bool)} (hn : net.length ≤ 1000) (hR : Reach net rs) (hB : BitsOk net bs) (ms bar : List Int) (hm : ∀ x ∈ ms, 0 ≤ x ∧ x < (net.length : Int)) (hl : ms.length < 64) :
    u_qclasses [.d (.list (rs.map fun r => dB1 r)), .d (dL ms), .d (dL bar)] = .val (.c (.lst ((clsI bs bar (setI ms)).map fun r => dT r)), [.un, .un, .un]) := by
  have hsl : (setI ms).length < 64 := Nat.lt_of_le_of_lt (setI_len ms) hl
  refine ok_eq (ok_run rfl ?_)
  unfold b_qclasses
  apply w_setX
  · exact x_c (show nT0 _ = _ from rfl)
  refine w_forL (enc := PyData.int) (setI ms) (S := List Gp) (fun i s => s = gps (sgB bs bar) ((setI ms).take i)) (fun s => cS rs ms bar (.own (.tr (.lst ((s.map (·.2)).map rowT)))) .un) [] (fr := true) (i_seqL (e_ofN (n_sset (e_var rfl) rfl (decide_eq_true hl) (intsOf_map ms)))) rfl rfl ?_ ?_
  · rintro i m s hmi rfl
    have hmm := setI_mem.mp (List.mem_of_getElem? hmi)
    have hm0 := hm m hmm
    have G := gps_ok (sgB bs bar) ((setI ms).take i)
    have hel : ∀ z ∈ gps (sgB bs bar) ((setI ms).take i), ∃ x us, z.2 = x :: us ∧ x ∈ ms ∧ sgB bs bar x = z.1 := fun z hz => by
      obtain ⟨h1, h2⟩ := G.el z hz
      obtain ⟨x, us, e⟩ := List.exists_cons_of_ne_nil h2
      have hx : x ∈ z.2 := by rw [e]; simp
      rw [h1] at hx
      obtain ⟨q1, q2⟩ := List.mem_filter.mp hx
      exact ⟨x, us, e, setI_mem.mp (List.mem_of_mem_take q1), of_decide_eq_true q2⟩
    have hrl : ∀ z ∈ gps (sgB bs bar) ((setI ms).take i), z.2.length < 64 := fun z hz => by
      rw [(G.el z hz).1]
      have h1 := List.length_filter_le (fun x => decide (sgB bs bar x = z.1)) ((setI ms).take i)
      have h2 : ((setI ms).take i).length ≤ (setI ms).length := List.length_take_le' _ _
      omega
    have hgl : (gps (sgB bs bar) ((setI ms).take i)).length ≤ 1000 := by
      have h1 : ((gps (sgB bs bar) ((setI ms).take i)).map (·.1)).length ≤ (((setI ms).take i).map (sgB bs bar)).length := G.nd.length_le_of_subset fun k hk => by
        obtain ⟨z, hz, rfl⟩ := List.mem_map.mp hk
        obtain ⟨x, us, e, _, e2⟩ := hel z hz
        have hx : x ∈ z.2 := by rw [e]; simp
        rw [(G.el z hz).1] at hx
        exact List.mem_map.mpr ⟨x, (List.mem_filter.mp hx).1, e2⟩
      have h2 : ((setI ms).take i).length ≤ (setI ms).length := List.length_take_le' _ _
      rw [List.length_map, List.length_map] at h1
      omega
    have hselB : selB u_qalike_k25 (cS rs ms bar (.own (.tr (.lst (((gps (sgB bs bar) ((setI ms).take i)).map (·.2)).map rowT)))) (.dat true (.int m))) 6 [false, false, false, false] [.v 0, .h 6 0, .v 4, .v 2] (((gps (sgB bs bar) ((setI ms).take i)).map (·.2)).map rowT) = some (((gps (sgB bs bar) ((setI ms).take i)).map (·.2)).map fun k => decide (sgB bs bar (k.headD 0) = sgB bs bar m)) :=
      selB_map (fun x => decide (sgB bs bar x = sgB bs bar m)) fun k hk => by
        obtain ⟨z, hz, rfl⟩ := List.mem_map.mp hk
        obtain ⟨x, us, e, hx, _⟩ := hel z hz
        exact ⟨x, us, _, _, e, rfl, alike_l hn hR hB bar (hm x hx) hm0⟩
    obtain ⟨ys, hys⟩ := selD_rows (((gps (sgB bs bar) ((setI ms).take i)).map (·.2)).map fun k => decide (sgB bs bar (k.headD 0) = sgB bs bar m)) ((gps (sgB bs bar) ((setI ms).take i)).map (·.2)) (((gps (sgB bs bar) ((setI ms).take i)).map (·.2)).map rowT).length
    have hbig : (2 : Nat) ^ 20 ≤ sizeLine := by decide
    have he := there_eq (i := 5) (j := 3) (r := 6) (mk := 4) (Γ := cS rs ms bar (.own (.tr (.lst (((gps (sgB bs bar) ((setI ms).take i)).map (·.2)).map rowT)))) (.dat true (.int m))) rfl rfl hselB (decide_eq_true ⟨by decide, by decide, by decide, by decide, by decide, by show 5 < 7; decide, by show 6 < 7; decide⟩) (by rw [List.length_map, List.length_map]; omega) (by
      refine List.all_eq_true.mpr fun t ht => ?_
      obtain ⟨k, hk, rfl⟩ := List.mem_map.mp ht
      obtain ⟨z, hz, rfl⟩ := List.mem_map.mp hk
      have hlen := hrl z hz
      rw [trD_row]
      show (ltS (z.2.map fun x => Tre.d (.int x)) && true) = true
      rw [Bool.and_true]
      exact ltS_of (by rw [List.length_map]; omega)) (by
      rw [hys]
      exact (eqt_list (eqt_list eqt_int)).sh (by decide) ys)
    refine ⟨_, rfl, ?_⟩
    apply w_there he
    rw [put_addG fun z hz => by
      obtain ⟨x, us, e, _, e2⟩ := hel z hz
      rw [e]; exact e2]
    refine w_nil ⟨addG (sgB bs bar) (gps (sgB bs bar) ((setI ms).take i)) m, rfl, ?_⟩
    rw [take_step hmi]
    unfold gps
    rw [List.foldl_append]
    rfl
  · rintro s rfl
    rw [List.take_of_length_le (Nat.le_refl _)]
    apply w_frz (d := .list (((gps (sgB bs bar) (setI ms)).map (·.2)).map dL)) rfl
    · show trD (.lst (((gps (sgB bs bar) (setI ms)).map (·.2)).map rowT)) = _
      rw [trD, trDs_rows]; rfl
    have hgl : ((gps (sgB bs bar) (setI ms)).map (·.2)).length < 2 ^ 20 := by
      have h1 : (grp (sgB bs bar) (setI ms)).length ≤ ((setI ms).map fun x => (setI ms).filter fun y => decide (sgB bs bar y = sgB bs bar x)).length := gpx_nd.length_le_of_subset fun k hk => by
        obtain ⟨x, hx, e⟩ := gpx_mem.mp hk
        exact List.mem_map.mpr ⟨x, hx, e.symm⟩
      rw [List.length_map] at h1
      have : ((gps (sgB bs bar) (setI ms)).map (·.2)).length = (grp (sgB bs bar) (setI ms)).length := rfl
      omega
    apply w_retC
    · exact c_l (n_map (enc := fun k => dL k) ((gps (sgB bs bar) (setI ms)).map (·.2)) (fun k => dT k) (i_seqL (e_var rfl)) hgl rfl fun k hk => ⟨_, rfl, rfl, e_frz (e_B (a_cons (e_var rfl) a_nil) (k_tup rfl))⟩)
    exact ⟨_, _, rfl, rfl, rfl⟩
end PDW
set_option linter.all false
set_option maxRecDepth 100000
set_option maxHeartbeats 0
set_option autoImplicit false
namespace PDW
open PySem L2 PD
theorem e_revL {Γ : List Sl} {m : Nat} {io : Bool} {es : List PyData} (h0 : cellL Γ m = some (io, es)) : dLm m qReverse dA0 Γ = .val (.d true .none, Γ.set m (mkS io (.lst es.reverse))) := by
  unfold dLm
  rw [h0, ofO_some, bind_val, a_nil, bind_val, h0]
  rfl
theorem addG_new {f : Int → List Bool} {m : Int} : ∀ {s : List Gp}, f m ∉ s.map (·.1) → addG f s m = s ++ [(f m, [m])]
  | [], _ => rfl
  | z :: s, h => by
    have h1 : z.1 ≠ f m := fun e => h (by rw [← e]; simp)
    rw [addG, if_neg h1, addG_new fun hm => h (by simp only [List.map_cons, List.mem_cons]; exact .inr hm)]
    rfl
theorem gps_alone {f : Int → List Bool} : ∀ (n : Nat) (row : List Int), row.length = n → row.Nodup → (∀ x ∈ row, ∀ y ∈ row, f x = f y → x = y) → gps f row = row.map fun x => (f x, [x])
  | 0, row, hl, _, _ => by
    have : row = [] := List.length_eq_zero_iff.mp hl
    subst this; rfl
  | n + 1, row, hl, hn, hi => by
    have hne : row ≠ [] := fun e => by rw [e] at hl; simp at hl
    obtain ⟨r, m, rfl⟩ : ∃ r m, row = r ++ [m] := ⟨row.dropLast, row.getLast hne, (List.dropLast_concat_getLast hne).symm⟩
    obtain ⟨n1, n2, n3⟩ := List.nodup_append.mp hn
    have ih := gps_alone n r (by simpa using hl) n1 fun x hx y hy e => hi x (by simp [hx]) y (by simp [hy]) e
    have h1 : gps f (r ++ [m]) = addG f (gps f r) m := by unfold gps; rw [List.foldl_append]; rfl
    rw [h1, ih, addG_new, List.map_append]
    · rfl
    · intro hm
      obtain ⟨z, hz, e⟩ := List.mem_map.mp hm
      obtain ⟨x, hx, rfl⟩ := List.mem_map.mp hz
      have := hi x (by simp [hx]) m (by simp) e
      exact n3 x hx m (by simp) this
theorem anc_below {net : List (List Int)} (hN : NetOk net) {i j : Nat} (h : Anc net i j) : j ≤ i := by
  induction h with
  | rf i => exact Nat.le_refl _
  | st h1 h2 _ ih =>
    have := ((hN _ _ h1).1 _ h2).2
    omega
theorem cls_alone {net : List (List Int)} {bs : List Int} (hN : NetOk net) (hB : BitsOk net bs) {row : List Int} (hr : InR net.length row) (hn : row.Pairwise (· < ·)) : clsI bs [] row = row.map fun x => [x] := by
  have hi : ∀ x ∈ row, ∀ y ∈ row, sgB bs [] x = sgB bs [] y → x = y := fun x hx y hy e => by
    have key : ∀ a b : Int, a ∈ row → b ∈ row → a < b → sgB bs [] a = sgB bs [] b → False := fun a b ha hb hlt e => by
      have ha2 := hr a ha
      have hb2 := hr b hb
      obtain ⟨i, rfl⟩ : ∃ i : Nat, a = (i : Int) := ⟨a.toNat, by omega⟩
      obtain ⟨j, rfl⟩ : ∃ j : Nat, b = (j : Int) := ⟨b.toNat, by omega⟩
      obtain ⟨v, hv⟩ : ∃ v, bs[i]? = some v := ⟨_, List.getElem?_eq_getElem (by rw [hB.1]; omega)⟩
      have h1 := sgB_eq.mp e i v hv (by simp)
      have h2 := (inb_anc hB hv i).mpr (.rf i)
      rw [h2] at h1
      have h3 := anc_below hN ((inb_anc hB hv j).mp h1.symm)
      omega
    rcases Int.lt_trichotomy x y with h | h | h
    · exact (key x y hx hy h e).elim
    · exact h
    · exact (key y x hy hx h e.symm).elim
  unfold clsI
  rw [gps_alone row.length row rfl (hn.imp fun {a b} h => by omega) hi, List.map_map]
  rfl
theorem smD_cls (L : List (List Int)) (h1 : L.length ≤ 100000) (h2 : ∀ k ∈ L, k.length ≤ 100000) : SmD 2 (.list (L.map fun r => dT r)) :=
  .lst 1 _ (fun x hx => by
    obtain ⟨k, hk, rfl⟩ := List.mem_map.mp hx
    exact .tup 0 _ (fun y hy => by
      obtain ⟨z, _, rfl⟩ := List.mem_map.mp hy
      exact .int 0 z) (by rw [List.length_map]; exact h2 k hk)) (by rw [List.length_map]; exact h1)
theorem cls_small (bs bar row : List Int) (h : row.length ≤ 100000) : (clsI bs bar row).length ≤ 100000 ∧ ∀ k ∈ clsI bs bar row, k.length ≤ 100000 := by
  have h1 : (grp (sgB bs bar) row).length ≤ (row.map fun x => row.filter fun y => decide (sgB bs bar y = sgB bs bar x)).length := gpx_nd.length_le_of_subset fun k hk => by
    obtain ⟨x, hx, e⟩ := gpx_mem.mp hk
    exact List.mem_map.mpr ⟨x, hx, e.symm⟩
  rw [List.length_map] at h1
  refine ⟨Nat.le_trans h1 h, fun k hk => ?_⟩
  have hk : k ∈ grp (sgB bs bar) row := hk
  obtain ⟨x, hx, e⟩ := gpx_mem.mp hk
  rw [e]
  exact Nat.le_trans List.filter_sublist.length_le h
abbrev lS (ns : List Int) (net : List (List Int)) (rs : List (List Bool)) (x3 x4 x5 x6 x7 x8 x9 x10 : Sl) : List Sl := [.dat false (dL ns), .dat true (dTT net), .dat true (.list (rs.map fun r => dB1 r)), x3, x4, x5, x6, x7, x8, x9, x10, .un]
theorem law_true (ns : List Int) (hns : ns.length ≤ 63) : u_p_law [.d (.list (ns.map PyData.int))] = .val (.d (.bool true), [.un]) := by
  refine ok_eq (ok_run rfl ?_)
  unfold b_p_law
  obtain ⟨d0, hd0, bd0⟩ := deck_q ns 0
  obtain ⟨net, d1, hnet, hN, hn1, hn2, _⟩ := net_q d0 0 bd0 (by omega) 12 40 (by omega) (by omega) (by omega) (by omega)
  have hn2 : net.length ≤ 40 := by omega
  obtain ⟨rs, hrs, hreach⟩ := reach_q net hN (by omega)
  obtain ⟨bs, hB, eb⟩ := bits_q net hN (by omega)
  apply w_set
  · apply e_x
    · apply x_callNq
      · exact n_X (x_call (a_cons (e_var rfl) (a_cons e_C a_nil)) rfl hd0)
      · exact hnet
    · rfl
  bv_decide
  clear hreach hnet hd0
  obtain ⟨v, hv, v0, v1⟩ : ∃ v : Int, atI [PyData.int 4, .int 2] (b2n (decide ((14 : Int) < (net.length : Nat)))) = some (.int v) ∧ 2 ≤ v ∧ v ≤ 4 := by
    by_cases h : (14 : Int) < (net.length : Nat)
    · rw [decide_eq_true h]; exact ⟨2, rfl, by omega, by omega⟩
    · rw [decide_eq_false h]; exact ⟨4, rfl, by omega, by omega⟩
  refine w_forL (enc := PyData.int) (rng 1 (max2 2 (min2 (ns.length : Nat) v))) (S := Unit) (fun _ _ => True) (fun _ => lS ns net rs .un .un .un .un .un .un .un .un) () (i_range2 e_C (e_B (a_cons e_C (a_cons (e_B (a_cons (e_B (a_cons (e_var rfl) a_nil) (k_lenI rfl)) (a_cons (e_ixL (e_ofN (n_lst (a_cons e_C (a_cons e_C a_nil)) rfl rfl)) (e_B (a_cons (e_cmp (e_B (a_cons (e_var rfl) a_nil) (k_lenJ rfl)) e_C k_I) a_nil) rfl) hv) a_nil)) k_mn2) a_nil)) k_mx2) (cRng_of (by decide) (by decide) (by unfold max2 min2; split <;> split <;> omega) (by unfold max2 min2; split <;> split <;> omega))) rfl trivial ?_ ?_
  · rintro i x ⟨⟩ hx _
    obtain ⟨k, rfl⟩ : ∃ k : Nat, x = (k : Int) := by
      unfold rng at hx
      obtain ⟨j, _, rfl⟩ := gmap hx
      exact ⟨1 + j, by omega⟩
    refine ⟨_, rfl, ?_⟩
    obtain ⟨e0, he0, be0⟩ := deck_q ns k
    obtain ⟨ms, e1, he1, hml, hm, be1⟩ := makes_p e0 0 be0 (by omega) net.length hn1 (by omega)
    obtain ⟨bar, e2, he2, hbl, hb, be2⟩ := barred_q e1 _ be1 (by omega) net.length (by omega)
    have hsl : (setI ms).length ≤ 100000 := Nat.le_trans (setI_len ms) (by omega)
    have hgi : InR net.length (setI ms) := fun x hx => hm x (setI_mem.mp hx)
    have cl := classes_l (by omega) hrs hB ms bar hm (by omega)
    have c1 : u_p_classes [.d (dTT net), .d (dL ms), .d (dL bar)] = .val (.c (.lst ((clsI bs bar (setI ms)).map fun r => dT r)), [.un, .un, .un]) := classes_q net hN (by omega) bs hB eb false ms (setI ms) hm (setI_rise _) (fun x => setI_mem) (.l bar)
    have c2 : u_p_classes [.d (dTT net), .d (dL ms), .d (dT bar)] = .val (.c (.lst ((clsI bs bar (setI ms)).map fun r => dT r)), [.un, .un, .un]) := classes_q net hN (by omega) bs hB eb false ms (setI ms) hm (setI_rise _) (fun x => setI_mem) (.t bar)
    have hal := cls_alone hN hB hgi (setI_rise _)
    have c3 : u_p_classes [.d (dTT net), .d (dT ms), .d .none] = .val (.c (.lst ((clsI bs [] (setI ms)).map fun r => dT r)), [.un, .un, .un]) := classes_q net hN (by omega) bs hB eb true ms (setI ms) hm (setI_rise _) (fun x => setI_mem) .n
    have c4 : u_p_classes [.d (dTT net), .d (dL ms), .d .none] = .val (.c (.lst ((clsI bs [] (setI ms)).map fun r => dT r)), [.un, .un, .un]) := classes_q net hN (by omega) bs hB eb false ms (setI ms) hm (setI_rise _) (fun x => setI_mem) .n
    obtain ⟨k1, k2⟩ := cls_small bs bar (setI ms) hsl
    obtain ⟨k3, k4⟩ := cls_small bs [] (setI ms) hsl
    have sm1 := same_q 2 64 _ (smD_cls _ k1 k2) (by omega)
    have sm2 := same_q 2 64 _ (smD_cls _ k3 k4) (by omega)
    obtain ⟨L, hL⟩ : ∃ L, L = clsI bs bar (setI ms) := ⟨_, rfl⟩
    rw [← hL] at cl c1 c2 sm1 k1
    apply w_setX
    · exact x_call (a_cons (e_var rfl) (a_cons (e_var rfl) a_nil)) rfl he0
    clear he0
    apply w_set
    · exact e_xc (x_callE (a_cons (e_varO rfl) (a_cons (e_B (a_cons (e_var rfl) a_nil) (k_lenJ rfl)) a_nil)) rfl rfl rfl rfl he1 rfl rfl)
    clear he1
    apply w_set
    · exact e_xc (x_callE (a_cons (e_varO rfl) (a_cons (e_B (a_cons (e_var rfl) a_nil) (k_lenJ rfl)) a_nil)) rfl rfl rfl rfl he2 rfl rfl)
    clear he2
    apply w_set
    · exact e_ofN (n_lst (a_cons (e_ofN (n_B (a_cons (e_var rfl) a_nil) (k_list rfl rfl))) (a_cons (e_ofN (n_B (a_cons (e_var rfl) a_nil) (k_list rfl rfl))) a_nil)) rfl rfl)
    apply w_set
    · exact e_xc (x_call (a_cons (e_var rfl) (a_cons (e_var rfl) (a_cons (e_var rfl) a_nil))) rfl cl)
    apply w_setX
    · exact x_call (a_cons (e_var rfl) (a_cons (e_ixL (ds := [dL ms, dL bar]) (e_var rfl) e_C rfl) (a_cons (e_ixL (ds := [dL ms, dL bar]) (e_var rfl) e_C rfl) a_nil))) rfl c1
    apply w_ifN
    · exact t_or (z := false) (t_not (z := true) (t_tst (e_xd (x_call (a_cons (e_varO rfl) (a_cons (e_var rfl) a_nil)) rfl sm1)))) fun _ => t_tst (e_cmp (e_var rfl) (e_ofN (n_lst (a_cons (e_frz (e_var rfl)) (a_cons (e_frz (e_var rfl)) a_nil)) rfl rfl)) (k_neT (eqt_list (eqt_list eqt_int)) (by decide) (x := [ms, bar]) (y := [ms, bar]) rfl rfl))
    · rw [decide_eq_true rfl]; rfl
    and_intros
    apply w_expr
    · exact e_revL rfl
    apply w_expr
    · exact e_ap rfl (e_frz (e_tup (a_cons e_C a_nil) rfl rfl)) rfl (ltS_of (by rw [List.length_reverse, List.length_map]; omega))
    and_intros
    apply w_ifN
    · exact t_not (z := true) (t_tst (e_xd (x_call (a_cons (e_xc (x_call (a_cons (e_var rfl) (a_cons (e_ixL (ds := [dL ms, dL bar]) (e_var rfl) e_C rfl) (a_cons (e_ixL (ds := [dL ms, dL bar]) (e_var rfl) e_C rfl) a_nil))) rfl c1)) (a_cons (e_var rfl) a_nil)) rfl sm1)))
    · rfl
    and_intros
    apply w_ifN
    · exact t_tst (e_cmp (e_xc (x_callK (a_cons (e_var rfl) (a_cons (e_var rfl) a_nil)) (a_cons (e_B (a_cons (e_var rfl) a_nil) (k_tup rfl)) a_nil) rfl rfl rfl c2)) (e_var rfl) (k_neT (eqt_list (eqt_tup eqt_int)) (by decide) (x := L) (y := L) rfl rfl))
    · rw [decide_eq_true rfl]; rfl
    and_intros
    refine w_normL (Γ' := lS ns net rs (.dat true (.int (k : Nat))) (.own (dk e2)) (.dat true (dL ms)) (.dat true (dL bar)) (.dat true (.list [dL ms, dL bar])) (.dat true (.list (L.map fun r => dT r))) (.own (.lst ((L.map fun r => dT r).reverse ++ [.tuple [.int 0]]))) .un) rfl ?_
    have hco : nComp [11] (gN 11) (iSeq (dOfN (dSset (dVar 5)))) tYes (dFrz (dTup (dAc (dFrz (dVar 11)) dA0))) (lS ns net rs (.dat true (.int (k : Nat))) (.own (dk e2)) (.dat true (dL ms)) (.dat true (dL bar)) (.dat true (.list [dL ms, dL bar])) (.dat true (.list (L.map fun r => dT r))) (.own (.lst ((L.map fun r => dT r).reverse ++ [.tuple [.int 0]]))) .un) = .val ((clsI bs [] (setI ms)).map (fun r => dT r), lS ns net rs (.dat true (.int (k : Nat))) (.own (dk e2)) (.dat true (dL ms)) (.dat true (dL bar)) (.dat true (.list [dL ms, dL bar])) (.dat true (.list (L.map fun r => dT r))) (.own (.lst ((L.map fun r => dT r).reverse ++ [.tuple [.int 0]]))) .un) := by
      have := n_map (enc := PyData.int) (setI ms) (fun x => .tuple [.int x]) (vs := [11]) (g := gN 11) (it := iSeq (dOfN (dSset (dVar 5)))) (e := dFrz (dTup (dAc (dFrz (dVar 11)) dA0))) (Γ := lS ns net rs (.dat true (.int (k : Nat))) (.own (dk e2)) (.dat true (dL ms)) (.dat true (dL bar)) (.dat true (.list [dL ms, dL bar])) (.dat true (.list (L.map fun r => dT r))) (.own (.lst ((L.map fun r => dT r).reverse ++ [.tuple [.int 0]]))) .un) (i_seqL (e_ofN (n_sset (e_var rfl) rfl (decide_eq_true (show ms.length < 64 by omega)) (intsOf_map ms)))) (by omega) rfl fun x hx => ⟨_, rfl, rfl, e_frz (e_tup (a_cons (e_frz (e_var rfl)) a_nil) rfl rfl)⟩
      rw [this, hal, List.map_map]
      rfl
    apply w_set
    · exact e_ofN hco
    clear hco
    and_intros
    apply w_ifN
    · exact t_or (z := false) (t_not (z := true) (t_tst (e_xd (x_call (a_cons (e_xc (x_call (a_cons (e_var rfl) (a_cons (e_B (a_cons (e_var rfl) a_nil) (k_tup rfl)) a_nil)) rfl c3)) (a_cons (e_var rfl) a_nil)) rfl sm2)))) fun _ => t_not (z := true) (t_tst (e_xd (x_call (a_cons (e_xc (x_call (a_cons (e_var rfl) (a_cons (e_var rfl) (a_cons e_C a_nil))) rfl c4)) (a_cons (e_var rfl) a_nil)) rfl sm2)))
    · rfl
    and_intros
    exact w_nil ⟨(), rfl, trivial⟩
  · rintro ⟨⟩ _
    nofun
    exact ⟨_, _, rfl, rfl, rfl⟩
end PDW
end
end
end
end
set_option Elab.async false
set_option linter.all false
set_option maxRecDepth 100000
set_option maxHeartbeats 0
namespace PDW
open PySem PySem.Spec PyProof.Rows L2 PD
theorem envD {K : PySem.W.Frag} {hp : Heap} {mg : Str → Option Value} (X : K.In hp) (G : hp.Ns mainGlobals mg) (c : He.SaysD faD fnD K) : Env K mg where
  d_p_law := ⟨_, _, (c.def_ 0 (d := dd0) rfl).choose_spec, He.glo_ok X G (c.fact 0 (f := .glo "law") rfl)⟩
  d_qnet := ⟨_, _, (c.def_ 1 (d := dd1) rfl).choose_spec, He.glo_ok X G (c.fact 1 (f := .glo "_law_net") rfl)⟩
  d_qdraw := ⟨_, _, (c.def_ 2 (d := dd2) rfl).choose_spec, He.glo_ok X G (c.fact 2 (f := .glo "_law_draw") rfl)⟩
  d_qis_elder := ⟨_, _, (c.def_ 3 (d := dd3) rfl).choose_spec, He.glo_ok X G (c.fact 3 (f := .glo "_law_is_elder") rfl)⟩
  d_qdeck := ⟨_, _, (c.def_ 4 (d := dd4) rfl).choose_spec, He.glo_ok X G (c.fact 4 (f := .glo "_law_deck") rfl)⟩
  d_qreach := ⟨_, _, (c.def_ 5 (d := dd5) rfl).choose_spec, He.glo_ok X G (c.fact 5 (f := .glo "_law_reach") rfl)⟩
  d_qmakes := ⟨_, _, (c.def_ 6 (d := dd6) rfl).choose_spec, He.glo_ok X G (c.fact 6 (f := .glo "_law_makes") rfl)⟩
  d_qbarred := ⟨_, _, (c.def_ 7 (d := dd7) rfl).choose_spec, He.glo_ok X G (c.fact 7 (f := .glo "_law_barred") rfl)⟩
  d_qclasses := ⟨_, _, (c.def_ 8 (d := dd8) rfl).choose_spec, He.glo_ok X G (c.fact 8 (f := .glo "_law_classes") rfl)⟩
  d_qalike := ⟨_, _, (c.def_ 9 (d := dd9) rfl).choose_spec, He.glo_ok X G (c.fact 9 (f := .glo "_law_alike") rfl)⟩
  d_p_classes := ⟨_, _, (c.def_ 10 (d := dd10) rfl).choose_spec, He.glo_ok X G (c.fact 10 (f := .glo "classes") rfl)⟩
  d_p_some_of := ⟨_, _, (c.def_ 11 (d := dd11) rfl).choose_spec, He.glo_ok X G (c.fact 11 (f := .glo "some_of") rfl)⟩
  d_p_bits_of := ⟨_, _, (c.def_ 12 (d := dd12) rfl).choose_spec, He.glo_ok X G (c.fact 12 (f := .glo "bits_of") rfl)⟩
  d_p_makes_in := ⟨_, _, (c.def_ 13 (d := dd13) rfl).choose_spec, He.glo_ok X G (c.fact 13 (f := .glo "makes_in") rfl)⟩
  d_p_mask_of := ⟨_, _, (c.def_ 14 (d := dd14) rfl).choose_spec, He.glo_ok X G (c.fact 14 (f := .glo "mask_of") rfl)⟩
  d_p_is_in := ⟨_, _, (c.def_ 15 (d := dd15) rfl).choose_spec, He.glo_ok X G (c.fact 15 (f := .glo "is_in") rfl)⟩
  d_qsame := ⟨_, _, (c.def_ 16 (d := dd16) rfl).choose_spec, He.glo_ok X G (c.fact 16 (f := .glo "_law_same") rfl)⟩
  b_int := He.free_ok X G (c.fact 17 (f := .free "int") rfl)
  b_range := He.free_ok X G (c.fact 18 (f := .free "range") rfl)
  b_tuple := He.free_ok X G (c.fact 19 (f := .free "tuple") rfl)
  b_len := He.free_ok X G (c.fact 20 (f := .free "len") rfl)
  b_enumerate := He.free_ok X G (c.fact 21 (f := .free "enumerate") rfl)
  b_zip := He.free_ok X G (c.fact 22 (f := .free "zip") rfl)
  b_max := He.free_ok X G (c.fact 23 (f := .free "max") rfl)
  b_min := He.free_ok X G (c.fact 24 (f := .free "min") rfl)
  b_list := He.free_ok X G (c.fact 25 (f := .free "list") rfl)
  b_sorted := He.free_ok X G (c.fact 26 (f := .free "sorted") rfl)
  b_set := He.free_ok X G (c.fact 27 (f := .free "set") rfl)
  b_isinstance := He.free_ok X G (c.fact 28 (f := .free "isinstance") rfl)
  b_all := He.free_ok X G (c.fact 29 (f := .free "all") rfl)
  b_str := He.free_ok X G (c.fact 30 (f := .free "str") rfl)
  b_bool := He.free_ok X G (c.fact 31 (f := .free "bool") rfl)
theorem lawD {P : Program} {w : World} {K : PySem.W.Frag} {hp : Heap} {mg : Str → Option Value} {f : Addr} (X : K.In hp) (G : hp.Ns mainGlobals mg) (hf : mg ("law" : Str) = some (.ref f)) (c : He.SaysD faD fnD K) :
    ∃ fd : FuncData, (∀ (z : Shared) (v : Value), BindsTo z fd ⟨[v], []⟩ [("_law_script", v)]) ∧ ∀ base : Heap, FnOk P w K mg base (L2.CX P w) 66 f fd ["_law_script"] (spU K mg u_p_law) := by
  obtain ⟨fd, F⟩ := c.def_ 0 (d := dd0) rfl
  have e := hf.symm.trans (He.glo_ok X G (c.fact 0 (f := .glo "law") rfl))
  cases e
  have b := FunD.bindsA (ps := ["_law_script"]) F fun _ _ _ _ _ _ us hl => match us, hl with | [_], _ => rfl
  exact ⟨fd, fun z v => b z [v] rfl, fun base => fo_p_law (envD X G c) F⟩
theorem spD {K : PySem.W.Frag} {mg : Str → Option Value} {H : Hp} {a : Addr} {ns : List Int} (hl : ns.length ≤ 63) (hS : SqL K H a (ns.map V.int)) : spU K mg u_p_law [.ref a] H (fun v _ => v = .bl true) fun _ _ _ => False := spU_law (law_true ns hl) hS
theorem walkD {l : PySem.W.OpenLaw} {n k : Nat} {q : Program} {loose : List Str} {XP : (Str → Option Value) → Heap → Prop} {YP : World → Heap → Prop} {d : DefRec} {x : Str} (hn : l.most = some n) (hn2 : n ≤ sizeLine) (hdf : d.params.defaults = []) (hr : Room k callerA)
    (F : ∀ (w : World) (mg : Str → Option Value) (fa : Addr) (h : Heap), YP w h → h.Ns mainGlobals mg → mg d.name = some (.ref fa) →
      ∃ (K : PySem.W.Frag) (fd : FuncData) (sp : Sp), K.In h ∧ (∀ (z : Shared) (u : Value), BindsTo z fd ⟨[u], []⟩ [(x, u)]) ∧
        (∀ (H : Hp) (a : Addr) (ns : List Int), ns.length ≤ n → Only H → SqL K H a (ns.map V.int) → sp [.ref a] H (fun v _ => v = .bl true) fun _ _ _ => False) ∧
        ∀ base : Heap, K.In base → base.Ns mainGlobals mg → FnOk l.prog w K mg base (L2.CX l.prog w) k fa fd [x] sp) :
    PySem.W.WalkO q loose XP YP l.row.toRowW d [] (fun f vs => PySem.call f vs) := by
  refine Att.attach_call hn hdf fun w s0 s1 mg mb fa o pm cd doc a vs ns G Y ho hd hcd hmg hobj hints hlen hg => ?_
  obtain ⟨K, fd, sp, KX, hb, hsp, hF⟩ := F w mg fa _ Y G.T.g hmg
  exact law_call KX G.T.g G.T.b G.T.builtins G.T.nolimit hg hobj hints (Nat.le_trans hlen hn2) hr hF hb (fun H hO hS => hsp H a ns hlen hO hS) fun H e s' ⟨_, _, _, _, _, _, _, _, _, _, _, _, z⟩ => z
end PDW
open PySem PySem.W PySem.Calls PyProof.Rows
theorem PySem.Challenge.cw_badbegins_k23_makes_that_are_alike_holds : PySem.Challenge.rw_badbegins_k23_makes_that_are_alike.Holds := by
  w_on; o_law
  refine HandSHeadRun.head_any (r := OpenLaw.row PySem.Challenge.rw_badbegins_k23_makes_that_are_alike) (q := view (OpenLaw.row PySem.Challenge.rw_badbegins_k23_makes_that_are_alike).prog [19]) (H := PDW.hkD) (ob := PDW.obD) (M := 4000) (loose := PDW.looseD) (d := HandSHeadRun.topDef (OpenLaw.row PySem.Challenge.rw_badbegins_k23_makes_that_are_alike).prog 19) (kwd := []) PDW.obD_eq
    (by kernel_rfl) (fun z => by kernel_rfl) PDW.runD (by kernel_rfl) (by kernel_rfl) (by kernel_rfl) (by rfl) (by first | assumption | decide +kernel) (by decide +kernel) ⟨rfl, rfl, rfl, rfl, rfl, by decide +kernel⟩ ?hw ?hc
  case hw => w_witness2
  case hc =>
    refine PDW.walkD (l := PySem.Challenge.rw_badbegins_k23_makes_that_are_alike) (n := 63) (k := 66) (x := "_law_script") rfl (by decide) (by kernel_rfl) ⟨rfl, by decide, by decide⟩ ?F
    intro w mg fa hp Y G hmg0
    obtain ⟨K, KX, c⟩ := Y
    have hmg : mg ("law" : PySem.Str) = some (.ref fa) := by
      have e : (HandSHeadRun.topDef (OpenLaw.row PySem.Challenge.rw_badbegins_k23_makes_that_are_alike).prog 19).name = ("law" : PySem.Str) := by kernel_rfl
      rw [← e]
      exact hmg0
    obtain ⟨fd, hb, hF⟩ := PDW.lawD (P := PySem.Challenge.rw_badbegins_k23_makes_that_are_alike.prog) (w := w) KX G hmg c
    exact ⟨K, fd, _, KX, hb, fun H a ns hl _ hS => PDW.spD hl hS, fun base _ _ => hF base⟩
